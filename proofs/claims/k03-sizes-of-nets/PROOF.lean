import PyProof.Rows.All
import Wide.All
import OpenK.AllK
import Wide.FinOn
import HandS.ForMost
import HandS.ForExc
import HandS.CallSlots
import HandS.Lambda
import HandS.NoneIn
import HandS.ExcInit
import HandS.TupAny
import HandS.Wide
import HandS.Deep
import HandS.SortInts
import HandS.IsInst
import HandS.SetFor
import HandS.More
import KE.KTryMore
import HandS.ExcField
import HandS.TryMany
import PyProof.RulesAs
import HandS.Defaults
import PyProof.InstSpecial
import HandS.HeadHook2
import HandS.HeadHook3
import HandS.HeadHook4
import HandS.HeadWalk
import HandS.Conv
import KE.GoesMore
import KE.GoesEnum
import KE.KStateDown
import Lean
import HandS.Head0
import HandS.Head1
import HandS.Head2
import PySem.Challenge.RW_hueroads_k03_sizes_of_nets
set_option Elab.async false
set_option linter.all false
set_option maxRecDepth 100000
/-! Hw, part 1: plain data, what stands for it in a heap, the world of a def, the judgements. -/
namespace Hw
open PySem PySem.Spec L2

/-- plain data -/
inductive D where
  | non | bl (b : Bool) | int (i : Int) | str (x : Str)
  | lst (l : List D) | tup (l : List D)
  | dct (t : Bool) (ks : List D) (vs : List D)
  | ins (c : Str) (fs : List Str) (vs : List D)
  | scr (ns : List Int)
  | ctup (vs : List V)

/-- an exception: its class, its attributes -/
structure Exc where
  c : Str
  fs : List Str
  vs : List D

/-- what a slot holds: nothing; data that stands still; an own container; the j-th object that the caller lends -/
inductive Sv where
  | no | fz (d : D) | own (d : D) | io (j : Nat)
abbrev Rho := List Sv
abbrev Tau := List D
inductive Out (α : Type) where
  | ok (a : α) (t : Tau)
  | exc (e : Exc) (t : Tau)
  | bad
def Out.bind {α β : Type} (o : Out α) (f : α → Tau → Out β) : Out β := match o with
  | .ok a t => f a t
  | .exc e t => .exc e t
  | .bad => .bad
def Out.of {α : Type} (o : Option α) (τ : Tau) : Out α := match o with
  | some z => .ok z τ
  | none => .bad
abbrev SE := Rho → Tau → Out D

/-- what a text's facts are read from -/
structure Kx where
  K : PySem.W.Frag
  mg : Str → Option Value

def keyD : Key → D
  | .inl i => .int i
  | .inr x => .str x
/-- the dict's keys, its values, as they stand in an object -/
def DctO (t : Bool) (o : HO) (ks : List D) (vs : List V) : Prop :=
  (t = false ∧ ∃ kvs : List (Key × V), o = .dK kvs ∧ kvs.map (·.2) = vs ∧ ks = kvs.map fun p => keyD p.1) ∨
  (t = true ∧ ∃ kvs : List (List Key × V), o = .dT kvs ∧ kvs.map (·.2) = vs ∧ ks = kvs.map fun p => .tup (p.1.map keyD))

mutual
/-- v stands for d, by what stands still in Z -/
def Rep (k : Kx) (Z : Hp) : D → V → Prop
  | .non, v => v = .non
  | .bl b, v => v = .bl b
  | .int i, v => v = .int i
  | .str x, v => v = .str x
  | .lst ds, v => ∃ a vs, v = .ref a ∧ Z a = some (.lst vs) ∧ Reps k Z ds vs
  | .scr ns, v => ∃ a, v = .ref a ∧ SqL k.K Z a (ns.map V.int)
  | .tup ds, v => ∃ a vs, v = .ref a ∧ Z a = some (.tup vs) ∧ Reps k Z ds vs
  | .ctup vs, v => ∃ a, v = .ref a ∧ SqT k.K Z a vs
  | .dct t ks ds, v => ∃ a o vs, v = .ref a ∧ Z a = some o ∧ DctO t o ks vs ∧ Reps k Z ds vs
  | .ins c fs ds, v => ∃ a C dx vs, v = .ref a ∧ Z a = some (.ins C dx (fs.zip vs)) ∧ k.mg c = some (.ref C) ∧ fs.length = vs.length ∧ Reps k Z ds vs
def Reps (k : Kx) (Z : Hp) : List D → List V → Prop
  | [], vs => vs = []
  | d :: ds, vs => ∃ v r, vs = v :: r ∧ Rep k Z d v ∧ Reps k Z ds r
end
/-- the object o holds d, its parts by Z -/
def OwnO (k : Kx) (Z : Hp) (d : D) (o : HO) : Prop := match d with
  | .lst ds => ∃ vs, o = .lst vs ∧ Reps k Z ds vs
  | .dct t ks ds => ∃ vs, DctO t o ks vs ∧ Reps k Z ds vs
  | .ins c fs ds => ∃ C dx vs, o = .ins C dx (fs.zip vs) ∧ k.mg c = some (.ref C) ∧ fs.length = vs.length ∧ Reps k Z ds vs
  | _ => False

theorem same_sqT {K : PySem.W.Frag} {H H' : Hp} {a : Addr} {xs : List V} (e : Same H H') (h : SqT K H a xs) : SqT K H' a xs := by
  rcases h with (h | ⟨o, h⟩) | h
  · exact .inl (.inl (e _ _ h))
  · exact .inl (.inr ⟨o, e _ _ h⟩)
  · exact .inr h
mutual
theorem Rep.mono {k : Kx} {Z Z' : Hp} (e : Same Z Z') : ∀ {d : D} {v : V}, Rep k Z d v → Rep k Z' d v
  | .non, _, h => by unfold Rep at *; exact h
  | .bl _, _, h => by unfold Rep at *; exact h
  | .int _, _, h => by unfold Rep at *; exact h
  | .str _, _, h => by unfold Rep at *; exact h
  | .lst ds, _, h => by
    unfold Rep at *
    obtain ⟨a, vs, h1, h2, h3⟩ := h
    exact ⟨a, vs, h1, e _ _ h2, Reps.mono e h3⟩
  | .scr ns, _, h => by
    unfold Rep at *
    obtain ⟨a, h1, h2⟩ := h
    exact ⟨a, h1, e.seq h2⟩
  | .tup ds, _, h => by
    unfold Rep at *
    obtain ⟨a, vs, h1, h2, h3⟩ := h
    exact ⟨a, vs, h1, e _ _ h2, Reps.mono e h3⟩
  | .ctup vs, _, h => by
    unfold Rep at *
    obtain ⟨a, h1, h2⟩ := h
    exact ⟨a, h1, same_sqT e h2⟩
  | .dct t ks ds, _, h => by
    unfold Rep at *
    obtain ⟨a, o, vs, h1, h2, h3, h4⟩ := h
    exact ⟨a, o, vs, h1, e _ _ h2, h3, Reps.mono e h4⟩
  | .ins c fs ds, _, h => by
    unfold Rep at *
    obtain ⟨a, C, dx, vs, h1, h2, h3, h4, h5⟩ := h
    exact ⟨a, C, dx, vs, h1, e _ _ h2, h3, h4, Reps.mono e h5⟩
theorem Reps.mono {k : Kx} {Z Z' : Hp} (e : Same Z Z') : ∀ {ds : List D} {vs : List V}, Reps k Z ds vs → Reps k Z' ds vs
  | [], _, h => by unfold Reps at *; exact h
  | d :: ds, _, h => by
    unfold Reps at *
    obtain ⟨v, r, h1, h2, h3⟩ := h
    exact ⟨v, r, h1, Rep.mono e h2, Reps.mono e h3⟩
end
theorem OwnO.mono {k : Kx} {Z Z' : Hp} (e : Same Z Z') {d : D} {o : HO} (h : OwnO k Z d o) : OwnO k Z' d o := by
  cases d with
  | lst ds =>
    obtain ⟨vs, h1, h2⟩ := h
    exact ⟨vs, h1, h2.mono e⟩
  | dct t ks ds =>
    obtain ⟨vs, h1, h2⟩ := h
    exact ⟨vs, h1, h2.mono e⟩
  | ins c fs ds =>
    obtain ⟨C, dx, vs, h1, h2, h3, h4⟩ := h
    exact ⟨C, dx, vs, h1, h2, h3, h4.mono e⟩
  | _ => exact h

section
variable {k : Kx} {Z : Hp}
theorem rep_int {i : Int} {v : V} : Rep k Z (.int i) v ↔ v = .int i := by unfold Rep; exact Iff.rfl
theorem rep_bl {i : Bool} {v : V} : Rep k Z (.bl i) v ↔ v = .bl i := by unfold Rep; exact Iff.rfl
theorem rep_str {i : Str} {v : V} : Rep k Z (.str i) v ↔ v = .str i := by unfold Rep; exact Iff.rfl
theorem rep_non {v : V} : Rep k Z .non v ↔ v = .non := by unfold Rep; exact Iff.rfl
theorem rep_lst {ds : List D} {v : V} : Rep k Z (.lst ds) v ↔ ∃ a vs, v = .ref a ∧ Z a = some (.lst vs) ∧ Reps k Z ds vs := by
  conv => lhs; unfold Rep
theorem rep_scr {ns : List Int} {v : V} : Rep k Z (.scr ns) v ↔ ∃ a, v = .ref a ∧ SqL k.K Z a (ns.map V.int) := by
  conv => lhs; unfold Rep
theorem rep_ctup {vs : List V} {v : V} : Rep k Z (.ctup vs) v ↔ ∃ a, v = .ref a ∧ SqT k.K Z a vs := by
  conv => lhs; unfold Rep
theorem rep_tup {ds : List D} {v : V} : Rep k Z (.tup ds) v ↔ ∃ a vs, v = .ref a ∧ Z a = some (.tup vs) ∧ Reps k Z ds vs := by
  conv => lhs; unfold Rep
theorem rep_dct {t : Bool} {ks ds : List D} {v : V} : Rep k Z (.dct t ks ds) v ↔ ∃ a o vs, v = .ref a ∧ Z a = some o ∧ DctO t o ks vs ∧ Reps k Z ds vs := by
  conv => lhs; unfold Rep
theorem rep_ins {c : Str} {fs : List Str} {ds : List D} {v : V} : Rep k Z (.ins c fs ds) v ↔ ∃ a C dx vs, v = .ref a ∧ Z a = some (.ins C dx (fs.zip vs)) ∧ k.mg c = some (.ref C) ∧ fs.length = vs.length ∧ Reps k Z ds vs := by
  conv => lhs; unfold Rep
theorem reps_nil {vs : List V} : Reps k Z [] vs ↔ vs = [] := by unfold Reps; exact Iff.rfl
theorem reps_cons {d : D} {ds : List D} {vs : List V} : Reps k Z (d :: ds) vs ↔ ∃ v r, vs = v :: r ∧ Rep k Z d v ∧ Reps k Z ds r := by
  conv => lhs; unfold Reps
theorem Reps.nil : Reps k Z [] [] := reps_nil.mpr rfl
theorem Reps.cons {d : D} {ds : List D} {v : V} {vs : List V} (h : Rep k Z d v) (t : Reps k Z ds vs) : Reps k Z (d :: ds) (v :: vs) := reps_cons.mpr ⟨v, vs, rfl, h, t⟩
theorem Reps.length : ∀ {ds : List D} {vs : List V}, Reps k Z ds vs → ds.length = vs.length
  | [], _, h => by rw [reps_nil] at h; subst h; rfl
  | d :: ds, _, h => by
    rw [reps_cons] at h
    obtain ⟨v, r, rfl, _, h⟩ := h
    rw [List.length_cons, List.length_cons, h.length]
theorem Reps.get : ∀ {ds : List D} {vs : List V} {i : Nat} {d : D}, Reps k Z ds vs → ds[i]? = some d → ∃ v, vs[i]? = some v ∧ Rep k Z d v
  | [], _, _, _, _, e => by simp at e
  | d :: ds, _, 0, d', h, e => by
    rw [reps_cons] at h
    obtain ⟨v, r, rfl, h1, h2⟩ := h
    have e' : d = d' := by simpa using e
    subst e'
    exact ⟨v, rfl, h1⟩
  | d :: ds, _, i + 1, d', h, e => by
    rw [reps_cons] at h
    obtain ⟨v, r, rfl, h1, h2⟩ := h
    obtain ⟨u, e1, e2⟩ := Reps.get (i := i) h2 (by simpa using e)
    exact ⟨u, by simpa using e1, e2⟩
theorem Reps.append : ∀ {ds es : List D} {vs us : List V}, Reps k Z ds vs → Reps k Z es us → Reps k Z (ds ++ es) (vs ++ us)
  | [], _, _, _, h, g => by rw [reps_nil] at h; subst h; exact g
  | d :: ds, _, _, _, h, g => by
    rw [reps_cons] at h
    obtain ⟨v, r, rfl, h1, h2⟩ := h
    exact Reps.cons h1 (Reps.append h2 g)
theorem Reps.take : ∀ (n : Nat) {ds : List D} {vs : List V}, Reps k Z ds vs → Reps k Z (ds.take n) (vs.take n)
  | 0, _, _, _ => by rw [List.take_zero, List.take_zero]; exact Reps.nil
  | n + 1, [], _, h => by rw [reps_nil] at h; subst h; exact Reps.nil
  | n + 1, d :: ds, _, h => by
    rw [reps_cons] at h
    obtain ⟨v, r, rfl, h1, h2⟩ := h
    exact Reps.cons h1 (Reps.take n h2)
theorem Reps.drop : ∀ (n : Nat) {ds : List D} {vs : List V}, Reps k Z ds vs → Reps k Z (ds.drop n) (vs.drop n)
  | 0, _, _, h => h
  | n + 1, [], _, h => by rw [reps_nil] at h; subst h; exact Reps.nil
  | n + 1, d :: ds, _, h => by
    rw [reps_cons] at h
    obtain ⟨v, r, rfl, h1, h2⟩ := h
    exact Reps.drop n h2
theorem Reps.set {d : D} {v : V} (g : Rep k Z d v) : ∀ (n : Nat) {ds : List D} {vs : List V}, Reps k Z ds vs → Reps k Z (ds.set n d) (vs.set n v)
  | _, [], _, h => by rw [reps_nil] at h; subst h; exact Reps.nil
  | 0, d' :: ds, _, h => by
    rw [reps_cons] at h
    obtain ⟨v, r, rfl, h1, h2⟩ := h
    exact Reps.cons g h2
  | n + 1, d' :: ds, _, h => by
    rw [reps_cons] at h
    obtain ⟨v, r, rfl, h1, h2⟩ := h
    exact Reps.cons h1 (Reps.set g n h2)
end

/-! ### the world of a running def -/
/-- the tables of code objects that are watched: the table, the name of what is made -/
class Tb where
  T : List (Addr × Str)
variable [Tb]
/-- neither a table nor a code object -/
def isPl : HO → Bool
  | .tbl _ => false
  | .ext _ => false
  | _ => true
theorem OwnO.pl {k : Kx} {Z : Hp} {d : D} {o : HO} (h : OwnO k Z d o) : isPl o = true := by
  cases d with
  | lst ds => obtain ⟨vs, rfl, _⟩ := h; rfl
  | dct t ks ds =>
    obtain ⟨vs, h1, _⟩ := h
    rcases h1 with ⟨_, kvs, rfl, _⟩ | ⟨_, kvs, rfl, _⟩ <;> rfl
  | ins c fs ds => obtain ⟨C, dx, vs, rfl, _⟩ := h; rfl
  | _ => exact h.elim
theorem tabs_no {H : Hp} {p : Addr} {o : HO} (t : LamX.Tabs Tb.T H) (h : H p = some o) (ho : isPl o = true) {u : HO} : LamX.Tabs Tb.T (upd H p u) := fun q hq => by
  obtain ⟨ps, h1, h2, h3⟩ := t q hq
  have n1 : q.1 ≠ p := fun e => by
    rw [e, h] at h1
    cases h1
    cases ho
  refine ⟨ps, by rw [upd_ne n1]; exact h1, h2, fun pos cv hc => ?_⟩
  obtain ⟨c, e1, e2⟩ := h3 pos cv hc
  have n2 : c ≠ p := fun e => by
    rw [e, h] at e2
    cases e2
    cases ho
  exact ⟨c, e1, by rw [upd_ne n2]; exact e2⟩
/-- A: the objects lent; F: what is known to stay as it is, Z: what is read as data -/
structure Wd (k : Kx) (A : List Addr) (F : Hp) (τ : Tau) (H Z : Hp) : Prop where
  zh : Same Z H
  fh : Same F H
  zf : ∀ a, F a = none ∨ Z a = none
  len : A.length = τ.length
  io : ∀ (j : Nat) (a : Addr) (d : D), A[j]? = some a → τ[j]? = some d → ∃ o, H a = some o ∧ OwnO k Z d o
  out : ∀ a ∈ A, Z a = none ∧ F a = none
  nd : A.Nodup
  tabs : LamX.Tabs Tb.T H
  pl : ∀ (a : Addr) (o : HO), Z a = some o ∨ F a = some o → isPl o = true
/-- the slots: σ the values, ρ what they stand for; F0: what the caller wants kept -/
structure Sl (k : Kx) (A : List Addr) (F0 F : Hp) (ρ : Rho) (σ : L2.St) (Z : Hp) : Prop where
  len : ρ.length = σ.length
  fz : ∀ (i : Nat) (d : D), ρ[i]? = some (.fz d) → ∃ v, σ[i]? = some (some v) ∧ Rep k Z d v
  own : ∀ (i : Nat) (d : D), ρ[i]? = some (.own d) → ∃ (a : Addr) (o : HO), σ[i]? = some (some (V.ref a)) ∧ F a = some o ∧ F0 a = none ∧ OwnO k Z d o
  io : ∀ (i j : Nat), ρ[i]? = some (.io j) → ∃ a, A[j]? = some a ∧ σ[i]? = some (some (V.ref a))
  ap : ∀ (i j : Nat) (d e : D) (a : Addr), ρ[i]? = some (.own d) → ρ[j]? = some (.own e) → σ[i]? = some (some (V.ref a)) → σ[j]? = some (some (V.ref a)) → i = j
  f0 : Same F0 F

theorem Sl.mono {k : Kx} {A : List Addr} {F0 F : Hp} {ρ : Rho} {σ : L2.St} {Z Z' : Hp} (h : Sl k A F0 F ρ σ Z) (e : Same Z Z') : Sl k A F0 F ρ σ Z' :=
  ⟨h.len, fun i d b => let ⟨v, p, q⟩ := h.fz i d b; ⟨v, p, q.mono e⟩, fun i d b => let ⟨x, o, p, q, r, s⟩ := h.own i d b; ⟨x, o, p, q, r, s.mono e⟩, h.io, h.ap, h.f0⟩

/-- an exception that flies: its class, its dict -/
def RepX (k : Kx) (F Z H : Hp) (e : Exc) (cls : Value) (dx : Option Addr) : Prop :=
  ∃ (C d : Addr) (vs : List V), cls = .ref C ∧ k.mg e.c = some (.ref C) ∧ dx = some d ∧ H d = some (.xd (e.fs.zip vs)) ∧ e.fs.length = vs.length ∧ Reps k Z e.vs vs ∧ F d = none ∧ Z d = none

/-- the parts of a judgement that stay: the facts, what an exception is wished -/
structure Jx where
  k : Kx
  W : WX

/-- behind an evaluation, at the slots σ -/
def After {α : Type} (c : Jx) (A : List Addr) (F0 F : Hp) (ρ : Rho) (σ : L2.St) (Z : Hp) (o : Out α) (Q : α → Tau → Hp → Hp → Prop) : Prop := match o with
  | .ok a τ' => ∀ H' Z', Wd c.k A F τ' H' Z' → Same Z Z' → Q a τ' H' Z'
  | .exc e τ' => ∀ cls dx H' Z', Wd c.k A F τ' H' Z' → Same Z Z' → RepX c.k F Z' H' e cls dx → Sl c.k A F0 F ρ σ Z' → c.W cls dx σ H'
  | .bad => False
/-- a value that is data, or an own container that is read -/
def RepB (k : Kx) (F Z : Hp) (d : D) (v : V) : Prop := Rep k Z d v ∨ ∃ a o, v = .ref a ∧ F a = some o ∧ OwnO k Z d o
def RepBs (k : Kx) (F Z : Hp) : List D → List V → Prop
  | [], vs => vs = []
  | d :: ds, vs => ∃ v r, vs = v :: r ∧ RepB k F Z d v ∧ RepBs k F Z ds r

def tE (c : Jx) (m : SE) : TE := fun σ H Q => ∃ ρ τ A F0 F Z, Wd c.k A F τ H Z ∧ Sl c.k A F0 F ρ σ Z ∧ After c A F0 F ρ σ Z (m ρ τ) fun d _ H' Z' => ∀ v, Rep c.k Z' d v → Q v H'
def tB (c : Jx) (m : SE) : TE := fun σ H Q => ∃ ρ τ A F0 F Z, Wd c.k A F τ H Z ∧ Sl c.k A F0 F ρ σ Z ∧ After c A F0 F ρ σ Z (m ρ τ) fun d _ H' Z' => ∀ v, RepB c.k F Z' d v → Q v H'
/-- behind the making of a new container -/
def AfterF (c : Jx) (A : List Addr) (F0 F : Hp) (ρ : Rho) (σ : L2.St) (Z : Hp) (o : Out D) (Q : VK) : Prop := match o with
  | .ok d τ' => ∀ H' Z' a o, F a = none → a ∉ A → Wd c.k A (upd F a o) τ' H' Z' → Same Z Z' → OwnO c.k Z' d o → Q (.ref a) H'
  | .exc e τ' => ∀ cls dx H' Z', Wd c.k A F τ' H' Z' → Same Z Z' → RepX c.k F Z' H' e cls dx → Sl c.k A F0 F ρ σ Z' → c.W cls dx σ H'
  | .bad => False
def tF (c : Jx) (m : SE) : TE := fun σ H Q => ∃ ρ τ A F0 F Z, Wd c.k A F τ H Z ∧ Sl c.k A F0 F ρ σ Z ∧ AfterF c A F0 F ρ σ Z (m ρ τ) Q
def tT (c : Jx) (m : Rho → Tau → Out Bool) : TT := fun σ H Q => ∃ ρ τ A F0 F Z, Wd c.k A F τ H Z ∧ Sl c.k A F0 F ρ σ Z ∧ After c A F0 F ρ σ Z (m ρ τ) fun d _ H' _ => Q d H'
def tA (c : Jx) (m : Rho → Tau → Out (List D)) : TA := fun σ H Q => ∃ ρ τ A F0 F Z, Wd c.k A F τ H Z ∧ Sl c.k A F0 F ρ σ Z ∧ After c A F0 F ρ σ Z (m ρ τ) fun d _ H' Z' => ∀ v, RepBs c.k F Z' d v → Q v H'
end Hw
/-! Hw, part 2: names, constants, operators, comparisons, tests, argument lists, calls of built-ins. -/
namespace Hw
open PySem PySem.Spec L2
variable [Tb]

/-! ### heaps -/
theorem same_new {H : Hp} {p : Addr} {o : HO} (h : H p = none) : Same H (upd H p o) := fun b x e => by
  rw [upd_ne (ne_of_none e h)]
  exact e
theorem none_of_same {H H' : Hp} {p : Addr} (e : Same H H') (h : H' p = none) : H p = none := e.free h
theorem Wd.alloc {k : Kx} {A : List Addr} {F : Hp} {τ : Tau} {H Z : Hp} {p : Addr} {o : HO} (w : Wd k A F τ H Z) (h : H p = none) (ho : isPl o = true) : Wd k A F τ (upd H p o) (upd Z p o) := by
  have zp := none_of_same w.zh h
  have fp := none_of_same w.fh h
  have ap : ∀ a ∈ A, a ≠ p := fun a ha e => by
    obtain ⟨j, hj, ej⟩ := List.getElem_of_mem ha
    have hj' : j < τ.length := by rw [← w.len]; exact hj
    obtain ⟨u, hu, _⟩ := w.io j a τ[j] (by rw [List.getElem?_eq_getElem hj, ej]) (List.getElem?_eq_getElem hj')
    rw [e, h] at hu
    cases hu
  refine ⟨fun a u e => ?_, fun a u e => ?_, fun a => ?_, w.len, fun j a d e1 e2 => ?_, fun a ha => ?_, w.nd, w.tabs.ext (same_new h), fun a u e => ?_⟩
  rotate_right
  · by_cases ha : a = p
    · subst ha
      rcases e with e | e
      · rw [upd_same] at e; cases e; exact ho
      · exact w.pl a u (.inr e)
    · rw [upd_ne ha] at e; exact w.pl a u e
  · by_cases ha : a = p
    · subst ha; rw [upd_same] at e ⊢; exact e
    · rw [upd_ne ha] at e ⊢; exact w.zh a u e
  · rw [upd_ne (ne_of_none e fp)]
    exact w.fh a u e
  · by_cases ha : a = p
    · subst ha; exact .inl fp
    · rw [upd_ne ha]; exact w.zf a
  · obtain ⟨u, hu, g⟩ := w.io j a d e1 e2
    refine ⟨u, ?_, g.mono (same_new zp)⟩
    rw [upd_ne (ne_of_none hu h)]
    exact hu
  · rw [upd_ne (ap a ha)]
    exact w.out a ha
theorem Wd.allocF {k : Kx} {A : List Addr} {F : Hp} {τ : Tau} {H Z : Hp} {p : Addr} {o : HO} (w : Wd k A F τ H Z) (h : H p = none) (ho : isPl o = true) : Wd k A (upd F p o) τ (upd H p o) Z := by
  have zp := none_of_same w.zh h
  have fp := none_of_same w.fh h
  have ap : ∀ a ∈ A, a ≠ p := fun a ha e => by
    obtain ⟨j, hj, ej⟩ := List.getElem_of_mem ha
    have hj' : j < τ.length := by rw [← w.len]; exact hj
    obtain ⟨u, hu, _⟩ := w.io j a τ[j] (by rw [List.getElem?_eq_getElem hj, ej]) (List.getElem?_eq_getElem hj')
    rw [e, h] at hu
    cases hu
  refine ⟨fun a u e => ?_, fun a u e => ?_, fun a => ?_, w.len, fun j a d e1 e2 => ?_, fun a ha => ?_, w.nd, w.tabs.ext (same_new h), fun a u e => ?_⟩
  rotate_right
  · by_cases ha : a = p
    · subst ha
      rcases e with e | e
      · exact w.pl a u (.inl e)
      · rw [upd_same] at e; cases e; exact ho
    · rw [upd_ne ha] at e; exact w.pl a u e
  · rw [upd_ne (ne_of_none e zp)]
    exact w.zh a u e
  · by_cases ha : a = p
    · subst ha; rw [upd_same] at e ⊢; exact e
    · rw [upd_ne ha] at e ⊢; exact w.fh a u e
  · by_cases ha : a = p
    · subst ha; exact .inr zp
    · rw [upd_ne ha]; exact w.zf a
  · obtain ⟨u, hu, g⟩ := w.io j a d e1 e2
    refine ⟨u, ?_, g⟩
    rw [upd_ne (ne_of_none hu h)]
    exact hu
  · rw [upd_ne (ap a ha)]
    exact w.out a ha
theorem Wd.a_some {k : Kx} {A : List Addr} {F : Hp} {τ : Tau} {H Z : Hp} (w : Wd k A F τ H Z) {a : Addr} (ha : a ∈ A) : ∃ o, H a = some o := by
  obtain ⟨j, hj, ej⟩ := List.getElem_of_mem ha
  have hj' : j < τ.length := by rw [← w.len]; exact hj
  obtain ⟨u, hu, _⟩ := w.io j a τ[j] (by rw [List.getElem?_eq_getElem hj, ej]) (List.getElem?_eq_getElem hj')
  exact ⟨u, hu⟩
theorem Wd.a_pl {k : Kx} {A : List Addr} {F : Hp} {τ : Tau} {H Z : Hp} (w : Wd k A F τ H Z) {a : Addr} (ha : a ∈ A) : ∃ o, H a = some o ∧ isPl o = true := by
  obtain ⟨j, hj, ej⟩ := List.getElem_of_mem ha
  have hj' : j < τ.length := by rw [← w.len]; exact hj
  obtain ⟨u, hu, h⟩ := w.io j a τ[j] (by rw [List.getElem?_eq_getElem hj, ej]) (List.getElem?_eq_getElem hj')
  exact ⟨u, hu, h.pl⟩
/-- an own container becomes data -/
theorem rep_of_own {k : Kx} {Z : Hp} {p : Addr} {o : HO} {d : D} (h : OwnO k Z d o) (hz : Z p = none) : Rep k (upd Z p o) d (.ref p) := by
  have e := same_new (o := o) hz
  cases d with
  | lst ds =>
    obtain ⟨vs, rfl, h2⟩ := h
    exact rep_lst.mpr ⟨p, vs, rfl, upd_same, h2.mono e⟩
  | dct t ks ds =>
    obtain ⟨vs, h1, h2⟩ := h
    exact rep_dct.mpr ⟨p, o, vs, rfl, upd_same, h1, h2.mono e⟩
  | ins c fs ds =>
    obtain ⟨C, dx, vs, rfl, h2, h3, h4⟩ := h
    exact rep_ins.mpr ⟨p, C, dx, vs, rfl, upd_same, h2, h3, h4.mono e⟩
  | non => exact h.elim
  | bl _ => exact h.elim
  | int _ => exact h.elim
  | str _ => exact h.elim
  | tup _ => exact h.elim
  | scr _ => exact h.elim
  | ctup _ => exact h.elim
theorem Wd.freeze {k : Kx} {A : List Addr} {F : Hp} {τ : Tau} {H Z : Hp} {p : Addr} {o : HO} (w : Wd k A (upd F p o) τ H Z) (h : F p = none) : Wd k A F τ H (upd Z p o) := by
  have zp : Z p = none := by
    rcases w.zf p with z | z
    · rw [upd_same] at z; cases z
    · exact z
  have ap : ∀ a ∈ A, a ≠ p := fun a ha e => by
    have := (w.out a ha).2
    rw [e, upd_same] at this
    cases this
  refine ⟨fun a u e => ?_, fun a u e => ?_, fun a => ?_, w.len, fun j a d e1 e2 => ?_, fun a ha => ?_, w.nd, w.tabs, fun a u e => ?_⟩
  rotate_right
  · by_cases ha : a = p
    · subst ha
      refine w.pl a u (.inr ?_)
      rw [upd_same]
      rcases e with e | e
      · rw [upd_same] at e; exact e
      · rw [h] at e; cases e
    · rw [upd_ne ha] at e
      exact w.pl a u (by rw [upd_ne ha]; exact e)
  · by_cases ha : a = p
    · subst ha
      rw [upd_same] at e
      exact w.fh a u (by rw [upd_same]; exact e)
    · rw [upd_ne ha] at e; exact w.zh a u e
  · exact w.fh a u (by rw [upd_ne (ne_of_none e h)]; exact e)
  · by_cases ha : a = p
    · subst ha; exact .inl h
    · have := w.zf a
      rw [upd_ne ha] at this ⊢
      exact this
  · obtain ⟨u, hu, g⟩ := w.io j a d e1 e2
    exact ⟨u, hu, g.mono (same_new zp)⟩
  · have := w.out a ha
    rw [upd_ne (ap a ha)] at this ⊢
    exact this

/-! ### behind -/
section
variable {α β : Type} {c : Jx} {A : List Addr} {F0 F Z Z' : Hp} {ρ : Rho} {σ : L2.St}
theorem After.mono {o : Out α} {Q Q' : α → Tau → Hp → Hp → Prop} (e : Same Z Z') (q : ∀ a τ H Z, Q a τ H Z → Q' a τ H Z) (h : After c A F0 F ρ σ Z o Q) : After c A F0 F ρ σ Z' o Q' := by
  cases o with
  | ok a τ => exact fun H1 Z1 w s => q _ _ _ _ (h H1 Z1 w (e.trans s))
  | exc x τ => exact fun cls dx H1 Z1 w s => h cls dx H1 Z1 w (e.trans s)
  | bad => exact h
theorem After.bind {o : Out α} {f : α → Tau → Out β} {Q : β → Tau → Hp → Hp → Prop} (h : After c A F0 F ρ σ Z (o.bind f) Q) :
    After c A F0 F ρ σ Z o fun a τ _ Z1 => After c A F0 F ρ σ Z1 (f a τ) Q := by
  cases o with
  | ok a τ => exact fun H1 Z1 w s => After.mono s (fun _ _ _ _ q => q) h
  | exc x τ => exact h
  | bad => exact h
theorem After.ok {a : α} {τ : Tau} {Q : α → Tau → Hp → Hp → Prop} (h : After c A F0 F ρ σ Z (.ok a τ) Q) {H' : Hp} (w : Wd c.k A F τ H' Z) : Q a τ H' Z := h H' Z w (Same.refl Z)
theorem After.next {o : Out α} {f : α → Tau → Out β} {Q : β → Tau → Hp → Hp → Prop} {K : α → Tau → Hp → Hp → Prop} (h : After c A F0 F ρ σ Z (o.bind f) Q)
    (hK : ∀ a τ H1 Z1, Wd c.k A F τ H1 Z1 → Same Z Z1 → After c A F0 F ρ σ Z1 (f a τ) Q → K a τ H1 Z1) : After c A F0 F ρ σ Z o K := by
  have q := After.bind h
  cases o with
  | ok a τ => exact fun H1 Z1 w e => hK a τ H1 Z1 w e (q H1 Z1 w e)
  | exc x τ => exact q
  | bad => exact q
theorem After.of {o : Option α} {τ : Tau} {Q : α → Tau → Hp → Hp → Prop} (h : After c A F0 F ρ σ Z (Out.of o τ) Q) : ∃ z, o = some z ∧ After c A F0 F ρ σ Z (.ok z τ) Q := by
  cases o with
  | none => exact h.elim
  | some z => exact ⟨z, rfl, h⟩
theorem AfterF.next {o : Out α} {f : α → Tau → Out D} {Q : VK} {K : α → Tau → Hp → Hp → Prop} (h : AfterF c A F0 F ρ σ Z (o.bind f) Q)
    (hK : ∀ a τ H1 Z1, Wd c.k A F τ H1 Z1 → Same Z Z1 → AfterF c A F0 F ρ σ Z1 (f a τ) Q → K a τ H1 Z1) : After c A F0 F ρ σ Z o K := by
  cases o with
  | ok a τ =>
    intro H1 Z1 w e
    refine hK a τ H1 Z1 w e ?_
    have h : AfterF c A F0 F ρ σ Z (f a τ) Q := h
    cases hf : f a τ with
    | ok d τ' => rw [hf] at h; exact fun H' Z' a' o h1 h2 h3 h4 h5 => h H' Z' a' o h1 h2 h3 (e.trans h4) h5
    | exc x τ' => rw [hf] at h; exact fun cls dx H' Z' h1 h2 h3 h4 => h cls dx H' Z' h1 (e.trans h2) h3 h4
    | bad => rw [hf] at h; exact h
  | exc x τ => exact h
  | bad => exact h
theorem AfterF.of {o : Option D} {τ : Tau} {Q : VK} (h : AfterF c A F0 F ρ σ Z (Out.of o τ) Q) : ∃ z, o = some z ∧ AfterF c A F0 F ρ σ Z (.ok z τ) Q := by
  cases o with
  | none => exact h.elim
  | some z => exact ⟨z, rfl, h⟩
theorem AfterF.ok {d : D} {τ : Tau} {Q : VK} (h : AfterF c A F0 F ρ σ Z (.ok d τ) Q) {H1 : Hp} (w : Wd c.k A F τ H1 Z) {p : Addr} {o : HO} (hp : H1 p = none) (ho : OwnO c.k Z d o) : Q (.ref p) (upd H1 p o) :=
  h _ _ p o (none_of_same w.fh hp) (fun ha => by
    obtain ⟨u, hu⟩ := w.a_some ha
    rw [hp] at hu
    cases hu) (w.allocF hp ho.pl) (Same.refl Z) ho
theorem After.newQ {z : D} {τ : Tau} {Q : VK} (h : After c A F0 F ρ σ Z (.ok z τ) fun d _ H' Z' => ∀ v, Rep c.k Z' d v → Q v H') {H1 : Hp} (w : Wd c.k A F τ H1 Z) :
    (∀ v, Rep c.k Z z v → Q v H1) ∧ ∀ p o, isPl o = true → H1 p = none → Z p = none → Rep c.k (upd Z p o) z (.ref p) → Q (.ref p) (upd H1 p o) :=
  ⟨fun v r => h H1 Z w (Same.refl Z) v r, fun p o ho hp zp r => h _ _ (w.alloc hp ho) (same_new zp) _ r⟩
end

/-! ### values by operators -/
theorem RepB.mono {k : Kx} {F Z Z' : Hp} (e : Same Z Z') {d : D} {v : V} (h : RepB k F Z d v) : RepB k F Z' d v := by
  rcases h with h | ⟨a, o, h1, h2, h3⟩
  · exact .inl (h.mono e)
  · exact .inr ⟨a, o, h1, h2, h3.mono e⟩
theorem RepBs.mono {k : Kx} {F Z Z' : Hp} (e : Same Z Z') : ∀ {ds : List D} {vs : List V}, RepBs k F Z ds vs → RepBs k F Z' ds vs
  | [], _, h => h
  | _ :: _, _, ⟨v, r, h1, h2, h3⟩ => ⟨v, r, h1, h2.mono e, RepBs.mono e h3⟩
/-- what a value is, by its data -/
theorem RepB.scal {k : Kx} {F Z : Hp} {d : D} {v : V} (h : RepB k F Z d v) : (∀ i, d = .int i → v = .int i) ∧ (∀ i, d = .bl i → v = .bl i) ∧ (∀ i, d = .str i → v = .str i) ∧ (d = .non → v = .non) := by
  rcases h with h | ⟨a, o, h1, h2, h3⟩
  · refine ⟨fun i e => ?_, fun i e => ?_, fun i e => ?_, fun e => ?_⟩ <;> subst e
    · exact rep_int.mp h
    · exact rep_bl.mp h
    · exact rep_str.mp h
    · exact rep_non.mp h
  · refine ⟨fun i e => ?_, fun i e => ?_, fun i e => ?_, fun e => ?_⟩ <;> subst e <;> exact h3.elim
theorem RepB.int {k : Kx} {F Z : Hp} {i : Int} {v : V} (h : RepB k F Z (.int i) v) : v = .int i := h.scal.1 i rfl
theorem RepB.bl {k : Kx} {F Z : Hp} {i : Bool} {v : V} (h : RepB k F Z (.bl i) v) : v = .bl i := h.scal.2.1 i rfl
theorem RepB.str {k : Kx} {F Z : Hp} {i : Str} {v : V} (h : RepB k F Z (.str i) v) : v = .str i := h.scal.2.2.1 i rfl
theorem RepB.non {k : Kx} {F Z : Hp} {v : V} (h : RepB k F Z .non v) : v = .non := h.scal.2.2.2 rfl
theorem RepB.lst {k : Kx} {F Z H : Hp} (eZ : Same Z H) (eF : Same F H) {ds : List D} {v : V} (h : RepB k F Z (.lst ds) v) : ∃ a vs, v = .ref a ∧ H a = some (.lst vs) ∧ Reps k Z ds vs := by
  rcases h with h | ⟨a, o, h1, h2, h3⟩
  · obtain ⟨a, vs, h1, h2, h3⟩ := rep_lst.mp h
    exact ⟨a, vs, h1, eZ _ _ h2, h3⟩
  · obtain ⟨vs, rfl, h4⟩ := h3
    exact ⟨a, vs, h1, eF _ _ h2, h4⟩
theorem RepB.scr {k : Kx} {F Z H : Hp} (eZ : Same Z H) {ns : List Int} {v : V} (h : RepB k F Z (.scr ns) v) : ∃ a, v = .ref a ∧ SqL k.K H a (ns.map V.int) := by
  rcases h with h | ⟨a, o, h1, h2, h3⟩
  · obtain ⟨a, h1, h2⟩ := rep_scr.mp h
    exact ⟨a, h1, eZ.seq h2⟩
  · exact h3.elim
theorem RepB.tup {k : Kx} {F Z H : Hp} (eZ : Same Z H) {ds : List D} {v : V} (h : RepB k F Z (.tup ds) v) : ∃ a vs, v = .ref a ∧ H a = some (.tup vs) ∧ Reps k Z ds vs := by
  rcases h with h | ⟨a, o, h1, h2, h3⟩
  · obtain ⟨a, vs, h1, h2, h3⟩ := rep_tup.mp h
    exact ⟨a, vs, h1, eZ _ _ h2, h3⟩
  · exact h3.elim
theorem RepB.ctup {k : Kx} {F Z H : Hp} (eZ : Same Z H) {vs : List V} {v : V} (h : RepB k F Z (.ctup vs) v) : ∃ a, v = .ref a ∧ SqT k.K H a vs := by
  rcases h with h | ⟨a, o, h1, h2, h3⟩
  · obtain ⟨a, h1, h2⟩ := rep_ctup.mp h
    exact ⟨a, h1, same_sqT eZ h2⟩
  · exact h3.elim
theorem RepB.dct {k : Kx} {F Z H : Hp} (eZ : Same Z H) (eF : Same F H) {t : Bool} {ks ds : List D} {v : V} (h : RepB k F Z (.dct t ks ds) v) : ∃ a o vs, v = .ref a ∧ H a = some o ∧ DctO t o ks vs ∧ Reps k Z ds vs := by
  rcases h with h | ⟨a, o, h1, h2, h3⟩
  · obtain ⟨a, o, vs, h1, h2, h3, h4⟩ := rep_dct.mp h
    exact ⟨a, o, vs, h1, eZ _ _ h2, h3, h4⟩
  · obtain ⟨vs, h4, h5⟩ := h3
    exact ⟨a, o, vs, h1, eF _ _ h2, h4, h5⟩

/-- the answer is z: a value that stands, or one new object -/
def NewQ (k : Kx) (Z H : Hp) (z : D) (Q : VK) : Prop := (∀ v, Rep k Z z v → Q v H) ∧ ∀ p o, isPl o = true → H p = none → Z p = none → Rep k (upd Z p o) z (.ref p) → Q (.ref p) (upd H p o)
/-- the answer is a new container -/
def FrQ (k : Kx) (Z H : Hp) (z : D) (Q : VK) : Prop := ∀ p o, H p = none → OwnO k Z z o → Q (.ref p) (upd H p o)
def OpD (k : Kx) (r : R2) (f : D → D → Option D) : Prop := ∀ {F Z H : Hp} {x y : V} {d e z : D} {Q : VK}, Same Z H → Same F H → RepB k F Z d x → RepB k F Z e y → f d e = some z → NewQ k Z H z Q → r x y H Q
def OpF (k : Kx) (r : R2) (f : D → D → Option D) : Prop := ∀ {F Z H : Hp} {x y : V} {d e z : D} {Q : VK}, Same Z H → Same F H → RepB k F Z d x → RepB k F Z e y → f d e = some z → FrQ k Z H z Q → r x y H Q
theorem FrQ.of_new {k : Kx} {Z H : Hp} {z : D} {Q : VK} (e : Same Z H) (h : NewQ k Z H z Q) : FrQ k Z H z Q := fun p o hp ho => h.2 p o ho.pl hp (none_of_same e hp) (rep_of_own ho (none_of_same e hp))
theorem OpF.d {k : Kx} {r : R2} {f : D → D → Option D} (h : OpF k r f) : OpD k r f := fun eZ eF hx hy e q => h eZ eF hx hy e (FrQ.of_new eZ q)
/-- calls with values -/
abbrev RC := List V → Hp → VK → Prop
def CallD (k : Kx) (r : RC) (f : List D → Option D) : Prop := ∀ {F Z H : Hp} {xs : List V} {ds : List D} {z : D} {Q : VK}, Same Z H → Same F H → RepBs k F Z ds xs → f ds = some z → NewQ k Z H z Q → r xs H Q
def CallF (k : Kx) (r : RC) (f : List D → Option D) : Prop := ∀ {F Z H : Hp} {xs : List V} {ds : List D} {z : D} {Q : VK}, Same Z H → Same F H → RepBs k F Z ds xs → f ds = some z → FrQ k Z H z Q → r xs H Q
theorem CallF.d {k : Kx} {r : RC} {f : List D → Option D} (h : CallF k r f) : CallD k r f := fun eZ eF hx e q => h eZ eF hx e (FrQ.of_new eZ q)

/-! ### the combinators of expressions -/
def eVar (i : Nat) : SE := fun ρ τ => match ρ[i]? with
  | some (.fz d) => .ok d τ
  | _ => .bad
/-- a name that is read, its own container or data -/
def eVarB (i : Nat) : SE := fun ρ τ => match ρ[i]? with
  | some (.fz d) => .ok d τ
  | some (.own d) => .ok d τ
  | _ => .bad
def eC (d : D) : SE := fun _ τ => .ok d τ
def eBin (f : D → D → Option D) (a b : SE) : SE := fun ρ τ => (a ρ τ).bind fun x τ1 => (b ρ τ1).bind fun y τ2 => .of (f x y) τ2
def eUn (f : D → Option D) (a : SE) : SE := fun ρ τ => (a ρ τ).bind fun x τ1 => .of (f x) τ1
def eIf (t : Rho → Tau → Out Bool) (a b : SE) : SE := fun ρ τ => (t ρ τ).bind fun x τ1 => if x = true then a ρ τ1 else b ρ τ1
abbrev ST := Rho → Tau → Out Bool
abbrev SA := Rho → Tau → Out (List D)
def tOf (m : SE) : ST := fun ρ τ => (m ρ τ).bind fun d τ1 => match d with
  | .bl b => .ok b τ1
  | _ => .bad
def ofT (m : ST) : SE := fun ρ τ => (m ρ τ).bind fun b τ1 => .ok (.bl b) τ1
def tAnd (a b : ST) : ST := fun ρ τ => (a ρ τ).bind fun x τ1 => if x = true then b ρ τ1 else .ok false τ1
def tOr (a b : ST) : ST := fun ρ τ => (a ρ τ).bind fun x τ1 => if x = true then .ok true τ1 else b ρ τ1
def tNot (a : ST) : ST := fun ρ τ => (a ρ τ).bind fun x τ1 => .ok (!x) τ1
def aNil : SA := fun _ τ => .ok [] τ
def aCons (a : SE) (r : SA) : SA := fun ρ τ => (a ρ τ).bind fun x τ1 => (r ρ τ1).bind fun xs τ2 => .ok (x :: xs) τ2
def eCallB (f : List D → Option D) (a : SA) : SE := fun ρ τ => (a ρ τ).bind fun xs τ1 => .of (f xs) τ1
def eTup (a : SA) : SE := fun ρ τ => (a ρ τ).bind fun xs τ1 => if xs.length ≤ sizeLine then .ok (.tup xs) τ1 else .bad
def eLst (a : SA) : SE := fun ρ τ => (a ρ τ).bind fun xs τ1 => if xs.length ≤ sizeLine then .ok (.lst xs) τ1 else .bad

abbrev jx (X : Cx) (W : WX) : Jx := ⟨⟨X.K, X.mg⟩, W⟩
abbrev EV (X : Cx) (W : WX) (e : Expr) (m : SE) : Prop := PE X e (tE (jx X W) m)
abbrev EB (X : Cx) (W : WX) (e : Expr) (m : SE) : Prop := PE X e (tB (jx X W) m)
abbrev EF (X : Cx) (W : WX) (e : Expr) (m : SE) : Prop := PE X e (tF (jx X W) m)
abbrev ET (X : Cx) (W : WX) (e : Expr) (m : ST) : Prop := PT X e (tT (jx X W) m)
abbrev EW (X : Cx) (W : WX) (e : Expr) (m : ST) : Prop := PW X e (tT (jx X W) m)
/-- arguments that may be own containers that are read; arguments that are data -/
abbrev EA (X : Cx) (W : WX) (e : List Expr) (m : SA) : Prop := PA X e (tA (jx X W) m)
def tAV (c : Jx) (m : SA) : TA := fun σ H Q => ∃ ρ τ A F0 F Z, Wd c.k A F τ H Z ∧ Sl c.k A F0 F ρ σ Z ∧ After c A F0 F ρ σ Z (m ρ τ) fun d _ H' Z' => ∀ v, Reps c.k Z' d v → Q v H'
abbrev EAV (X : Cx) (W : WX) (e : List Expr) (m : SA) : Prop := PA X e (tAV (jx X W) m)

section
variable {X : Cx} {W : WX} {e a b : Expr} {m ma mb : SE} {t : TE} {pos : Pos}
theorem pe_weak {t t' : TE} (h : PE X e t) (hi : ∀ σ H Q, t' σ H Q → t σ H Q) : PE X e t' := ⟨fun pins s σ H Q I q => h.run pins s σ H Q I (hi σ H Q q)⟩
theorem pt_weak {t t' : TT} (h : PT X e t) (hi : ∀ σ H Q, t' σ H Q → t σ H Q) : PT X e t' := ⟨fun pins s σ H Q I q => h.run pins s σ H Q I (hi σ H Q q)⟩
theorem pw_weak {t t' : TT} (h : PW X e t) (hi : ∀ σ H Q, t' σ H Q → t σ H Q) : PW X e t' := ⟨fun w pins s σ H Q I q => h.run w pins s σ H Q I (hi σ H Q q)⟩
theorem pa_weak {es : List Expr} {t t' : TA} (h : PA X es t) (hi : ∀ σ H Q, t' σ H Q → t σ H Q) : PA X es t' := ⟨fun p pins s σ H Q I q => h.run p pins s σ H Q I (hi σ H Q q)⟩

/-- data may be read -/
theorem ev_b (h : EV X W e m) : EB X W e m := pe_weak h fun σ H Q ⟨ρ, τ, A, F0, F, Z, w, s, q⟩ => ⟨ρ, τ, A, F0, F, Z, w, s, After.mono (Same.refl Z) (fun _ _ _ _ q v r => q v (.inl r)) q⟩
/-- a new container may be data -/
theorem ef_v (h : EF X W e m) : EV X W e m := pe_weak h fun σ H Q ⟨ρ, τ, A, F0, F, Z, w, s, q⟩ => ⟨ρ, τ, A, F0, F, Z, w, s, by
  cases hm : m ρ τ with
  | ok d τ' =>
    rw [hm] at q
    refine fun H' Z' a o fa na w' e' ho => ?_
    have za : Z' a = none := by
      rcases w'.zf a with z | z
      · rw [upd_same] at z; cases z
      · exact z
    exact q H' (upd Z' a o) (w'.freeze fa) (e'.trans (same_new za)) (.ref a) (rep_of_own ho za)
  | exc x τ' =>
    rw [hm] at q
    exact q
  | bad =>
    rw [hm] at q
    exact q⟩

/-! ### names, constants -/
theorem ev_var (i : Nat) {x : Str} (hN : X.N[i]? = some x := by rfl) (hv : Vis X.env.scope x := by first | exact Or.inl rfl | exact Or.inr (Or.inl rfl) | exact Or.inr (Or.inr rfl)) (hd : (x == ("__debug__" : Str)) = false := by decide)
    (hcd : (x == ("__classdict__" : Str)) = false := by decide) : EV X W (.Name x pos) (eVar i) := pe_weak (pe_var hN hv hd hcd) fun σ H Q ⟨ρ, τ, A, F0, F, Z, w, s, q⟩ => by
  unfold eVar at q
  split at q
  · rename_i d hd
    obtain ⟨v, e, r⟩ := s.fz i d hd
    exact ⟨v, e, After.ok q w v r⟩
  · exact q.elim
theorem eb_var (i : Nat) {x : Str} (hN : X.N[i]? = some x := by rfl) (hv : Vis X.env.scope x := by first | exact Or.inl rfl | exact Or.inr (Or.inl rfl) | exact Or.inr (Or.inr rfl)) (hd : (x == ("__debug__" : Str)) = false := by decide)
    (hcd : (x == ("__classdict__" : Str)) = false := by decide) : EB X W (.Name x pos) (eVarB i) := pe_weak (pe_var hN hv hd hcd) fun σ H Q ⟨ρ, τ, A, F0, F, Z, w, s, q⟩ => by
  unfold eVarB at q
  split at q
  · rename_i d hd
    obtain ⟨v, e, r⟩ := s.fz i d hd
    exact ⟨v, e, After.ok q w v (.inl r)⟩
  · rename_i d hd
    obtain ⟨a, o, e, f, _, r⟩ := s.own i d hd
    exact ⟨.ref a, e, After.ok q w _ (.inr ⟨a, o, rfl, f, r⟩)⟩
  · exact q.elim
theorem ev_of_c {v : V} {d : D} (h : PE X e (tC v)) (r : ∀ Z, Rep ⟨X.K, X.mg⟩ Z d v) : EV X W e (eC d) := pe_weak h fun σ H Q ⟨ρ, τ, A, F0, F, Z, w, s, q⟩ => q H Z w (Same.refl Z) v (r Z)
theorem ev_int {i : Int} {j : Nat} : EV X W (.Constant (.int i) j pos) (eC (.int i)) := ev_of_c pe_int fun _ => rep_int.mpr rfl
theorem ev_bl {i : Bool} {j : Nat} : EV X W (.Constant (.bool i) j pos) (eC (.bl i)) := ev_of_c pe_bl fun _ => rep_bl.mpr rfl
theorem ev_non {j : Nat} : EV X W (.Constant .none j pos) (eC .non) := ev_of_c pe_non fun _ => rep_non.mpr rfl
theorem ev_str {x : Str} {j : Nat} : EV X W (.Constant (.str x) j pos) (eC (.str x)) := ev_of_c pe_str fun _ => rep_str.mpr rfl
/-- a module's int, text -/
theorem ev_gint {x : Str} {i : Int} {u : Tok} (hg : Gl X x) (hm : X.mg x = some (.int i u)) (hd : (x == ("__debug__" : Str)) = false := by decide) : EV X W (.Name x pos) (eC (.int i)) := ev_of_c (pe_glob (v := .int i) hg hm ⟨u, rfl⟩ hd) fun _ => rep_int.mpr rfl
theorem ev_gstr {x y : Str} {u : Tok} (hg : Gl X x) (hm : X.mg x = some (.str y u)) (hd : (x == ("__debug__" : Str)) = false := by decide) : EV X W (.Name x pos) (eC (.str y)) := ev_of_c (pe_glob (v := .str y) hg hm ⟨u, rfl⟩ hd) fun _ => rep_str.mpr rfl

/-! ### two operands -/
theorem bin_ok {r : R2} {f : D → D → Option D} (hd : OpD ⟨X.K, X.mg⟩ r f) : ∀ σ H Q, tE (jx X W) (eBin f ma mb) σ H Q → tOp r (tB (jx X W) ma) (tB (jx X W) mb) σ H Q := fun σ H Q ⟨ρ, τ, A, F0, F, Z, w, s, q⟩ =>
  ⟨ρ, τ, A, F0, F, Z, w, s, After.next q fun d τ1 H1 Z1 w1 e1 q1 x rx => ⟨ρ, τ1, A, F0, F, Z1, w1, s.mono e1, After.next q1 fun e τ2 H2 Z2 w2 e2 q2 y ry => by
    obtain ⟨z, hz, q3⟩ := After.of q2
    exact hd w2.zh w2.fh (rx.mono e2) ry hz (After.newQ q3 w2)⟩⟩
theorem binF_ok {r : R2} {f : D → D → Option D} (hd : OpF ⟨X.K, X.mg⟩ r f) : ∀ σ H Q, tF (jx X W) (eBin f ma mb) σ H Q → tOp r (tB (jx X W) ma) (tB (jx X W) mb) σ H Q := fun σ H Q ⟨ρ, τ, A, F0, F, Z, w, s, q⟩ =>
  ⟨ρ, τ, A, F0, F, Z, w, s, AfterF.next q fun d τ1 H1 Z1 w1 e1 q1 x rx => ⟨ρ, τ1, A, F0, F, Z1, w1, s.mono e1, AfterF.next q1 fun e τ2 H2 Z2 w2 e2 q2 y ry => by
    obtain ⟨z, hz, q3⟩ := AfterF.of q2
    exact hd w2.zh w2.fh (rx.mono e2) ry hz fun p o hp ho => AfterF.ok q3 w2 hp ho⟩⟩
theorem ev_op {op : Operator} {r : R2} {f : D → D → Option D} (ho : OpR X (binaryOp op) r) (hd : OpD ⟨X.K, X.mg⟩ r f) (ha : EB X W a ma) (hb : EB X W b mb) : EV X W (.BinOp a op b pos) (eBin f ma mb) := pe_weak (pe_op ho ha hb) (bin_ok hd)
theorem ef_op {op : Operator} {r : R2} {f : D → D → Option D} (ho : OpR X (binaryOp op) r) (hd : OpF ⟨X.K, X.mg⟩ r f) (ha : EB X W a ma) (hb : EB X W b mb) : EF X W (.BinOp a op b pos) (eBin f ma mb) := pe_weak (pe_op ho ha hb) (binF_ok hd)
theorem ev_cmp {op : CmpOp} {r : R2} {f : D → D → Option D} (ho : OpR X (compareOp op) r) (hd : OpD ⟨X.K, X.mg⟩ r f) (ha : EB X W a ma) (hb : EB X W b mb) (hm : behindInMarks op b = false) : EV X W (.Compare a [op] [b] pos) (eBin f ma mb) := pe_weak (pe_cmpR ho ha hb hm) (bin_ok hd)
theorem test_ok {t : TE} (h : ∀ σ H Q, tE (jx X W) m σ H Q → t σ H Q) : ∀ σ H Q, tT (jx X W) (tOf m) σ H Q → tTest t σ H Q := fun σ H Q ⟨ρ, τ, A, F0, F, Z, w, s, q⟩ =>
  h σ H _ ⟨ρ, τ, A, F0, F, Z, w, s, After.next q fun d τ1 H1 Z1 w1 e1 q1 v rv => by
    cases d with
    | bl b => exact ⟨b, rep_bl.mp rv, After.ok q1 w1⟩
    | _ => exact False.elim q1⟩
theorem et_cmp {op : CmpOp} {r : R2} {f : D → D → Option D} (ho : OpR X (compareOp op) r) (hd : OpD ⟨X.K, X.mg⟩ r f) (ha : EB X W a ma) (hb : EB X W b mb) (hm : behindInMarks op b = false) : ET X W (.Compare a [op] [b] pos) (tOf (eBin f ma mb)) :=
  pt_weak (pt_cmpR ho ha hb hm) (test_ok (bin_ok hd))
/-- a test that is a value -/
theorem et_val (h : EV X W e m) (he : ∀ whole, isTrue e X.env whole = (do let v ← whole; standAt e.pos; holding [v] (truthy v)) := by intro _; rfl) : ET X W e (tOf m) := pt_weak (pt_val h he) (test_ok fun _ _ _ q => q)

/-! ### one operand -/
def UnD (k : Kx) (r : V → Hp → VK → Prop) (f : D → Option D) : Prop := ∀ {F Z H : Hp} {x : V} {d z : D} {Q : VK}, Same Z H → Same F H → RepB k F Z d x → f d = some z → NewQ k Z H z Q → r x H Q
theorem un_ok {r : V → Hp → VK → Prop} {f : D → Option D} (hd : UnD ⟨X.K, X.mg⟩ r f) : ∀ σ H Q, tE (jx X W) (eUn f ma) σ H Q → tUn r (tB (jx X W) ma) σ H Q := fun σ H Q ⟨ρ, τ, A, F0, F, Z, w, s, q⟩ =>
  ⟨ρ, τ, A, F0, F, Z, w, s, After.next q fun d τ1 H1 Z1 w1 e1 q1 x rx => by
    obtain ⟨z, hz, q3⟩ := After.of q1
    exact hd w1.zh w1.fh rx hz (After.newQ q3 w1)⟩
theorem ev_un {op : UnaryOp} {r : V → Hp → VK → Prop} {f : D → Option D} (ho : UnR X (unaryOp op) r) (hd : UnD ⟨X.K, X.mg⟩ r f) (ha : EB X W a ma) : EV X W (.UnaryOp op a pos) (eUn f ma) := pe_weak (pe_un ho ha) (un_ok hd)

/-! ### tests -/
section
variable {ta tb : ST} {rest : List Expr} {c : Expr}
theorem ew_and1 (h : ET X W a ta) : EW X W (.BoolOp .And [a] pos) ta := pw_and1 h
theorem ew_or1 (h : ET X W a ta) : EW X W (.BoolOp .Or [a] pos) ta := pw_or1 h
theorem ew_and (ha : ET X W a ta) (hb : EW X W (.BoolOp .And (b :: rest) pos) tb) : EW X W (.BoolOp .And (a :: b :: rest) pos) (tAnd ta tb) := pw_weak (pw_and ha hb) fun σ H Q ⟨ρ, τ, A, F0, F, Z, w, s, q⟩ =>
  ⟨ρ, τ, A, F0, F, Z, w, s, After.next q fun d τ1 H1 Z1 w1 e1 q1 => by
    cases d with
    | true => exact ⟨ρ, τ1, A, F0, F, Z1, w1, s.mono e1, q1⟩
    | false => exact After.ok q1 w1⟩
theorem ew_or (ha : ET X W a ta) (hb : EW X W (.BoolOp .Or (b :: rest) pos) tb) : EW X W (.BoolOp .Or (a :: b :: rest) pos) (tOr ta tb) := pw_weak (pw_or ha hb) fun σ H Q ⟨ρ, τ, A, F0, F, Z, w, s, q⟩ =>
  ⟨ρ, τ, A, F0, F, Z, w, s, After.next q fun d τ1 H1 Z1 w1 e1 q1 => by
    cases d with
    | false => exact ⟨ρ, τ1, A, F0, F, Z1, w1, s.mono e1, q1⟩
    | true => exact After.ok q1 w1⟩
theorem et_not (ha : ET X W a ta) : ET X W (.UnaryOp .Not a pos) (tNot ta) := pt_weak (pt_not ha) fun σ H Q ⟨ρ, τ, A, F0, F, Z, w, s, q⟩ =>
  ⟨ρ, τ, A, F0, F, Z, w, s, After.next q fun d τ1 H1 Z1 w1 e1 q1 => After.ok q1 w1⟩
theorem ev_if (hc : ET X W c ta) (ha : EV X W a ma) (hb : EV X W b mb) : EV X W (.IfExp c a b pos) (eIf ta ma mb) := pe_weak (pe_ifExp hc ha hb) fun σ H Q ⟨ρ, τ, A, F0, F, Z, w, s, q⟩ =>
  ⟨ρ, τ, A, F0, F, Z, w, s, After.next q fun d τ1 H1 Z1 w1 e1 q1 => by
    cases d with
    | true => exact ⟨ρ, τ1, A, F0, F, Z1, w1, s.mono e1, q1⟩
    | false => exact ⟨ρ, τ1, A, F0, F, Z1, w1, s.mono e1, q1⟩⟩
end

/-! ### arguments, displays -/
section
variable {es : List Expr} {mr : SA}
theorem ea_nil : EA X W [] aNil := pa_weak pa_nil fun σ H Q ⟨ρ, τ, A, F0, F, Z, w, s, q⟩ => q H Z w (Same.refl Z) [] rfl
theorem ea_cons (ha : EB X W e ma) (hr : EA X W es mr) (hs : starEach (e :: es) X.env = (false, eval e X.env) :: starEach es X.env := by rfl) : EA X W (e :: es) (aCons ma mr) := pa_weak (pa_cons ha hr hs) fun σ H Q ⟨ρ, τ, A, F0, F, Z, w, s, q⟩ =>
  ⟨ρ, τ, A, F0, F, Z, w, s, After.next q fun d τ1 H1 Z1 w1 e1 q1 x rx => ⟨ρ, τ1, A, F0, F, Z1, w1, s.mono e1, After.next q1 fun ds τ2 H2 Z2 w2 e2 q2 ys ry =>
    After.ok q2 w2 _ ⟨x, ys, rfl, rx.mono e2, ry⟩⟩⟩
theorem eav_nil : EAV X W [] aNil := pa_weak pa_nil fun σ H Q ⟨ρ, τ, A, F0, F, Z, w, s, q⟩ => q H Z w (Same.refl Z) [] Reps.nil
theorem eav_cons (ha : EV X W e ma) (hr : EAV X W es mr) (hs : starEach (e :: es) X.env = (false, eval e X.env) :: starEach es X.env := by rfl) : EAV X W (e :: es) (aCons ma mr) := pa_weak (pa_cons ha hr hs) fun σ H Q ⟨ρ, τ, A, F0, F, Z, w, s, q⟩ =>
  ⟨ρ, τ, A, F0, F, Z, w, s, After.next q fun d τ1 H1 Z1 w1 e1 q1 x rx => ⟨ρ, τ1, A, F0, F, Z1, w1, s.mono e1, After.next q1 fun ds τ2 H2 Z2 w2 e2 q2 ys ry =>
    After.ok q2 w2 _ (Reps.cons (rx.mono e2) ry)⟩⟩
theorem ev_tup (h : EAV X W es mr) {j : Nat} : EV X W (.Tuple es j pos) (eTup mr) := pe_weak (pe_tup h) fun σ H Q ⟨ρ, τ, A, F0, F, Z, w, s, q⟩ =>
  ⟨ρ, τ, A, F0, F, Z, w, s, After.next q fun ds τ1 H1 Z1 w1 e1 q1 vs rv => by
    by_cases hl : ds.length ≤ sizeLine
    · rw [if_pos hl] at q1
      refine ⟨by rw [← rv.length]; exact hl, fun p hp => ?_⟩
      have zp := none_of_same w1.zh hp
      exact q1 _ _ (w1.alloc hp rfl) (same_new zp) _ (rep_tup.mpr ⟨p, vs, rfl, upd_same, rv.mono (same_new zp)⟩)
    · rw [if_neg hl] at q1
      exact False.elim q1⟩
theorem ef_lst (h : EAV X W es mr) : EF X W (.List es pos) (eLst mr) := pe_weak (pe_lst h) fun σ H Q ⟨ρ, τ, A, F0, F, Z, w, s, q⟩ =>
  ⟨ρ, τ, A, F0, F, Z, w, s, AfterF.next q fun ds τ1 H1 Z1 w1 e1 q1 vs rv => by
    by_cases hl : ds.length ≤ sizeLine
    · rw [if_pos hl] at q1
      refine ⟨by rw [← rv.length]; exact hl, fun p hp => AfterF.ok q1 w1 hp ⟨vs, rfl, rv⟩⟩
    · rw [if_neg hl] at q1
      exact False.elim q1⟩
end

/-! ### calls of built-ins -/
theorem callB_ok {r : RC} {f : List D → Option D} {mr : SA} (hd : CallD ⟨X.K, X.mg⟩ r f) : ∀ σ H Q, tE (jx X W) (eCallB f mr) σ H Q → tCB r (tA (jx X W) mr) σ H Q := fun σ H Q ⟨ρ, τ, A, F0, F, Z, w, s, q⟩ =>
  ⟨ρ, τ, A, F0, F, Z, w, s, After.next q fun ds τ1 H1 Z1 w1 e1 q1 x rx => by
    obtain ⟨z, hz, q3⟩ := After.of q1
    exact hd w1.zh w1.fh rx hz (After.newQ q3 w1)⟩
theorem callBF_ok {r : RC} {f : List D → Option D} {mr : SA} (hd : CallF ⟨X.K, X.mg⟩ r f) : ∀ σ H Q, tF (jx X W) (eCallB f mr) σ H Q → tCB r (tA (jx X W) mr) σ H Q := fun σ H Q ⟨ρ, τ, A, F0, F, Z, w, s, q⟩ =>
  ⟨ρ, τ, A, F0, F, Z, w, s, AfterF.next q fun ds τ1 H1 Z1 w1 e1 q1 x rx => by
    obtain ⟨z, hz, q3⟩ := AfterF.of q1
    exact hd w1.zh w1.fh rx hz fun p o hp ho => AfterF.ok q3 w1 hp ho⟩
variable {es : List Expr} {mr : SA} {x : Str} {id T : String} {p : Pos}
theorem ev_callB {r : RC} {f : List D → Option D} (hc : CallR X (.builtin id) r) (hd : CallD ⟨X.K, X.mg⟩ r f) (hg : Gl X x) (hm : X.mg x = none) (hv : bootBuiltins x = some (.builtin id)) (ha : EA X W (e :: es) mr) (hn : x ≠ "__name__" := by decide) (hdb : (x == ("__debug__" : Str)) = false := by decide)
    (he : starEach (e :: es) X.env = (false, eval e X.env) :: starEach es X.env := by rfl) (hpl : (backTo pos (starEach es X.env)).any (·.1) = false := by rfl) : EV X W (.Call (.Name x p) (e :: es) [] pos) (eCallB f mr) := pe_weak (pe_callB hc hg hm hv ha hn hdb he hpl) (callB_ok hd)
theorem ef_callB {r : RC} {f : List D → Option D} (hc : CallR X (.builtin id) r) (hd : CallF ⟨X.K, X.mg⟩ r f) (hg : Gl X x) (hm : X.mg x = none) (hv : bootBuiltins x = some (.builtin id)) (ha : EA X W (e :: es) mr) (hn : x ≠ "__name__" := by decide) (hdb : (x == ("__debug__" : Str)) = false := by decide)
    (he : starEach (e :: es) X.env = (false, eval e X.env) :: starEach es X.env := by rfl) (hpl : (backTo pos (starEach es X.env)).any (·.1) = false := by rfl) : EF X W (.Call (.Name x p) (e :: es) [] pos) (eCallB f mr) := pe_weak (pe_callB hc hg hm hv ha hn hdb he hpl) (callBF_ok hd)
theorem ev_callT {r : RC} {f : List D → Option D} (hc : CallR X (.type T) r) (hd : CallD ⟨X.K, X.mg⟩ r f) (hg : Gl X x) (hm : X.mg x = none) (hv : bootBuiltins x = some (.type T)) (ha : EA X W (e :: es) mr) (hn : x ≠ "__name__" := by decide) (hdb : (x == ("__debug__" : Str)) = false := by decide)
    (he : starEach (e :: es) X.env = (false, eval e X.env) :: starEach es X.env := by rfl) (hpl : (backTo pos (starEach es X.env)).any (·.1) = false := by rfl) : EV X W (.Call (.Name x p) (e :: es) [] pos) (eCallB f mr) := pe_weak (pe_callTy hc hg hm hv ha hn hdb he hpl) (callB_ok hd)
theorem ef_callT {r : RC} {f : List D → Option D} (hc : CallR X (.type T) r) (hd : CallF ⟨X.K, X.mg⟩ r f) (hg : Gl X x) (hm : X.mg x = none) (hv : bootBuiltins x = some (.type T)) (ha : EA X W (e :: es) mr) (hn : x ≠ "__name__" := by decide) (hdb : (x == ("__debug__" : Str)) = false := by decide)
    (he : starEach (e :: es) X.env = (false, eval e X.env) :: starEach es X.env := by rfl) (hpl : (backTo pos (starEach es X.env)).any (·.1) = false := by rfl) : EF X W (.Call (.Name x p) (e :: es) [] pos) (eCallB f mr) := pe_weak (pe_callTy hc hg hm hv ha hn hdb he hpl) (callBF_ok hd)
/-- subscripts -/
theorem ev_ix {r : R2} {f : D → D → Option D} (hr : IxR X r) (hd : OpD ⟨X.K, X.mg⟩ r f) (ha : EB X W a ma) (hb : EB X W b mb) (hs : PlainIx b := by intro _ _; rfl) : EV X W (.Subscript a b pos) (eBin f ma mb) := pe_weak (pe_ix hr ha hb hs) (bin_ok hd)
end
end Hw
/-! Hw, part 3: statements, targets, loops, comprehensions. -/
namespace Hw
open PySem PySem.Spec L2
variable [Tb]

/-! ### what a statement does -/
inductive Fl where
  | nx (ρ : Rho) (τ : Tau) | ret (d : D) (τ : Tau) | brk (ρ : Rho) (τ : Tau) | cnt (ρ : Rho) (τ : Tau) | exc (e : Exc) (ρ : Rho) (τ : Tau) | bad
abbrev SS := Rho → Tau → Fl
/-- an expression, then a statement -/
def Out.andS {α : Type} (o : Out α) (ρ : Rho) (f : α → Tau → Fl) : Fl := match o with
  | .ok a τ => f a τ
  | .exc e τ => .exc e ρ τ
  | .bad => .bad
def sNext : SS := fun ρ τ => .nx ρ τ
def sBrk : SS := fun ρ τ => .brk ρ τ
def sCnt : SS := fun ρ τ => .cnt ρ τ
def sSeq (a b : SS) : SS := fun ρ τ => match a ρ τ with
  | .nx ρ1 τ1 => b ρ1 τ1
  | .ret d τ1 => .ret d τ1
  | .brk ρ1 τ1 => .brk ρ1 τ1
  | .cnt ρ1 τ1 => .cnt ρ1 τ1
  | .exc e ρ1 τ1 => .exc e ρ1 τ1
  | .bad => .bad
def sDrop (m : SE) : SS := fun ρ τ => (m ρ τ).andS ρ fun _ τ1 => .nx ρ τ1
def sRet (m : SE) : SS := fun ρ τ => (m ρ τ).andS ρ fun d τ1 => .ret d τ1
def sIf (t : ST) (a b : SS) : SS := fun ρ τ => (t ρ τ).andS ρ fun x τ1 => if x = true then a ρ τ1 else b ρ τ1
def sSet (i : Nat) (m : SE) : SS := fun ρ τ => (m ρ τ).andS ρ fun d τ1 => .nx (ρ.set i (.fz d)) τ1
def sSetF (i : Nat) (m : SE) : SS := fun ρ τ => (m ρ τ).andS ρ fun d τ1 => .nx (ρ.set i (.own d)) τ1
/-- an own container becomes data -/
def frzR (i : Nat) (ρ : Rho) : Rho := match ρ[i]? with
  | some (.own d) => ρ.set i (.fz d)
  | _ => ρ
def sFrz (i : Nat) (m : SS) : SS := fun ρ τ => m (frzR i ρ) τ
/-- the own container of slot i is the answer -/
def sRetOwn (i : Nat) : SS := fun ρ τ => match ρ[i]? with
  | some (.own d) => .ret d τ
  | _ => .bad

/-- behind a statement; r: a new container is the answer -/
def AfterS (c : Jx) (r : Bool) (A : List Addr) (F0 Z : Hp) (D : Ends) (o : Fl) : Prop := match o with
  | .nx ρ τ => ∀ σ H' Z' F', Wd c.k A F' τ H' Z' → Sl c.k A F0 F' ρ σ Z' → Same Z Z' → D.nx σ H'
  | .brk ρ τ => ∀ σ H' Z' F', Wd c.k A F' τ H' Z' → Sl c.k A F0 F' ρ σ Z' → Same Z Z' → D.bk σ H'
  | .cnt ρ τ => ∀ σ H' Z' F', Wd c.k A F' τ H' Z' → Sl c.k A F0 F' ρ σ Z' → Same Z Z' → D.ct σ H'
  | .ret d τ => if r = true then ∀ H' Z' F' a o, Wd c.k A F' τ H' Z' → Same F0 F' → Same Z Z' → F' a = some o → F0 a = none → OwnO c.k Z' d o → D.rt (.ref a) H'
      else ∀ H' Z' F' v, Wd c.k A F' τ H' Z' → Same F0 F' → Same Z Z' → Rep c.k Z' d v → D.rt v H'
  | .exc e ρ τ => ∀ cls dx σ H' Z' F', Wd c.k A F' τ H' Z' → Sl c.k A F0 F' ρ σ Z' → Same Z Z' → RepX c.k F' Z' H' e cls dx → c.W cls dx σ H'
  | .bad => False
def tS (c : Jx) (r : Bool) (m : SS) : TS := fun D σ H => ∃ ρ τ A F0 F Z, Wd c.k A F τ H Z ∧ Sl c.k A F0 F ρ σ Z ∧ AfterS c r A F0 Z D (m ρ τ)
abbrev ES (X : Cx) (W : WX) (r : Bool) (s : Stmt) (m : SS) : Prop := PS X s (tS (jx X W) r m)
abbrev EL (X : Cx) (W : WX) (r : Bool) (s : List Stmt) (m : SS) : Prop := PSs X s (tS (jx X W) r m)

section
variable {c : Jx} {r : Bool} {A : List Addr} {F0 F Z Z' : Hp} {ρ : Rho} {σ : L2.St} {D D' : Ends}
theorem AfterS.mono {o : Fl} (e : Same Z Z') (h : AfterS c r A F0 Z D o) : AfterS c r A F0 Z' D o := by
  cases o with
  | nx ρ τ => exact fun s H1 Z1 F1 w l q => h s H1 Z1 F1 w l (e.trans q)
  | brk ρ τ => exact fun s H1 Z1 F1 w l q => h s H1 Z1 F1 w l (e.trans q)
  | cnt ρ τ => exact fun s H1 Z1 F1 w l q => h s H1 Z1 F1 w l (e.trans q)
  | exc x ρ τ => exact fun cl dx s H1 Z1 F1 w l q => h cl dx s H1 Z1 F1 w l (e.trans q)
  | bad => exact h
  | ret d τ =>
    cases r with
    | true =>
      have h : ∀ H' Z' F' a o, Wd c.k A F' τ H' Z' → Same F0 F' → Same Z Z' → F' a = some o → F0 a = none → OwnO c.k Z' d o → D.rt (.ref a) H' := h
      exact fun H1 Z1 F1 a o w l q => h H1 Z1 F1 a o w l (e.trans q)
    | false =>
      have h : ∀ H' Z' F' v, Wd c.k A F' τ H' Z' → Same F0 F' → Same Z Z' → Rep c.k Z' d v → D.rt v H' := h
      exact fun H1 Z1 F1 a w l q => h H1 Z1 F1 a w l (e.trans q)
/-- an expression ahead -/
theorem After.andS {α : Type} {o : Out α} {f : α → Tau → Fl} {K : α → Tau → Hp → Hp → Prop} (h : AfterS c r A F0 Z D (o.andS ρ f))
    (hK : ∀ a τ H1 Z1, Wd c.k A F τ H1 Z1 → Same Z Z1 → AfterS c r A F0 Z1 D (f a τ) → K a τ H1 Z1) : After c A F0 F ρ σ Z o K := by
  cases o with
  | ok a τ => exact fun H1 Z1 w e => hK a τ H1 Z1 w e (AfterS.mono e h)
  | exc x τ => exact fun cls dx H1 Z1 w e rx sl => h cls dx σ H1 Z1 F w sl e rx
  | bad => exact h
theorem AfterF.andS {o : Out Hw.D} {f : Hw.D → Tau → Fl} {Q : VK} (h : AfterS c r A F0 Z D (o.andS ρ f))
    (hK : ∀ d τ H1 Z1 a u, F a = none → a ∉ A → Wd c.k A (upd F a u) τ H1 Z1 → Same Z Z1 → OwnO c.k Z1 d u → AfterS c r A F0 Z1 D (f d τ) → Q (.ref a) H1) : AfterF c A F0 F ρ σ Z o Q := by
  cases o with
  | ok d τ => exact fun H1 Z1 a u fa na w e ho => hK d τ H1 Z1 a u fa na w e ho (AfterS.mono e h)
  | exc x τ => exact fun cls dx H1 Z1 w e rx sl => h cls dx σ H1 Z1 F w sl e rx
  | bad => exact h
theorem AfterS.next {ρ1 : Rho} {τ1 : Tau} {H1 : Hp} (h : AfterS c r A F0 Z D (.nx ρ1 τ1)) (w : Wd c.k A F τ1 H1 Z) (s : Sl c.k A F0 F ρ1 σ Z) : D.nx σ H1 := h σ H1 Z F w s (Same.refl Z)

/-! ### slots -/
theorem Sl.setFz {d : Hw.D} {v : V} {i : Nat} {k : Kx} (s : Sl k A F0 F ρ σ Z) (rv : Rep k Z d v) : Sl k A F0 F (ρ.set i (.fz d)) (σ.set i (some v)) Z := by
  refine ⟨by rw [List.length_set, List.length_set]; exact s.len, fun j e h => ?_, fun j e h => ?_, fun j l h => ?_, fun j l e f a h1 h2 h3 h4 => ?_, s.f0⟩
  · by_cases hj : i = j
    · subst hj
      by_cases hl : i < ρ.length
      · rw [List.getElem?_set_self hl] at h
        cases h
        exact ⟨v, List.getElem?_set_self (by rw [← s.len]; exact hl), rv⟩
      · rw [List.getElem?_eq_none (by rw [List.length_set]; omega)] at h
        cases h
    · rw [List.getElem?_set_ne hj] at h ⊢
      exact s.fz j e h
  · by_cases hj : i = j
    · subst hj
      by_cases hl : i < ρ.length
      · rw [List.getElem?_set_self hl] at h; cases h
      · rw [List.getElem?_eq_none (by rw [List.length_set]; omega)] at h
        cases h
    · rw [List.getElem?_set_ne hj] at h ⊢
      exact s.own j e h
  · by_cases hj : i = j
    · subst hj
      by_cases hl : i < ρ.length
      · rw [List.getElem?_set_self hl] at h; cases h
      · rw [List.getElem?_eq_none (by rw [List.length_set]; omega)] at h
        cases h
    · rw [List.getElem?_set_ne hj] at h ⊢
      exact s.io j l h
  · have n1 : i ≠ j := fun z => by
      subst z
      by_cases hl : i < ρ.length
      · rw [List.getElem?_set_self hl] at h1; cases h1
      · rw [List.getElem?_eq_none (by rw [List.length_set]; omega)] at h1
        cases h1
    have n2 : i ≠ l := fun z => by
      subst z
      by_cases hl : i < ρ.length
      · rw [List.getElem?_set_self hl] at h2; cases h2
      · rw [List.getElem?_eq_none (by rw [List.length_set]; omega)] at h2
        cases h2
    rw [List.getElem?_set_ne n1] at h1 h3
    rw [List.getElem?_set_ne n2] at h2 h4
    exact s.ap j l e f a h1 h2 h3 h4
theorem Sl.setOwn {d : Hw.D} {a : Addr} {u : HO} {i : Nat} {k : Kx} (s : Sl k A F0 F ρ σ Z) (fa : F a = none) (ho : OwnO k Z d u) : Sl k A F0 (upd F a u) (ρ.set i (.own d)) (σ.set i (some (V.ref a))) Z := by
  have nea : ∀ {b o}, F b = some o → b ≠ a := fun {b o} h => ne_of_none h fa
  refine ⟨by rw [List.length_set, List.length_set]; exact s.len, fun j e h => ?_, fun j e h => ?_, fun j l h => ?_, fun j l e f b h1 h2 h3 h4 => ?_, fun b o h => ?_⟩
  · by_cases hj : i = j
    · subst hj
      by_cases hl : i < ρ.length
      · rw [List.getElem?_set_self hl] at h; cases h
      · rw [List.getElem?_eq_none (by rw [List.length_set]; omega)] at h
        cases h
    · rw [List.getElem?_set_ne hj] at h ⊢
      exact s.fz j e h
  · by_cases hj : i = j
    · subst hj
      by_cases hl : i < ρ.length
      · rw [List.getElem?_set_self hl] at h
        cases h
        refine ⟨a, u, List.getElem?_set_self (by rw [← s.len]; exact hl), upd_same, ?_, ho⟩
        exact none_of_same s.f0 fa
      · rw [List.getElem?_eq_none (by rw [List.length_set]; omega)] at h
        cases h
    · rw [List.getElem?_set_ne hj] at h ⊢
      obtain ⟨b, o, h1, h2, h3, h4⟩ := s.own j e h
      exact ⟨b, o, h1, by rw [upd_ne (nea h2)]; exact h2, h3, h4⟩
  · by_cases hj : i = j
    · subst hj
      by_cases hl : i < ρ.length
      · rw [List.getElem?_set_self hl] at h; cases h
      · rw [List.getElem?_eq_none (by rw [List.length_set]; omega)] at h
        cases h
    · rw [List.getElem?_set_ne hj] at h ⊢
      exact s.io j l h
  · have key : ∀ (j : Nat) (e : Hw.D), i ≠ j → (ρ.set i (.own d))[j]? = some (.own e) → (σ.set i (some (V.ref a)))[j]? = some (some (V.ref b)) → b ≠ a := fun j e hj h g => by
      rw [List.getElem?_set_ne hj] at h g
      obtain ⟨b', o, h1, h2, h3, h4⟩ := s.own j e h
      rw [h1] at g
      cases g
      exact nea h2
    have self : ∀ (j : Nat) (e : Hw.D), i = j → (ρ.set i (.own d))[j]? = some (.own e) → (σ.set i (some (V.ref a)))[j]? = some (some (V.ref b)) → b = a := fun j e hj h g => by
      subst hj
      have hl : i < ρ.length := by
        have := (List.getElem?_eq_some_iff.mp h).1
        rw [List.length_set] at this
        exact this
      rw [List.getElem?_set_self (by rw [← s.len]; exact hl)] at g
      cases g
      rfl
    by_cases hj : i = j
    · by_cases hl : i = l
      · exact hj.symm.trans hl
      · exact absurd (self j e hj h1 h3) (key l f hl h2 h4)
    · by_cases hl : i = l
      · exact absurd (self l f hl h2 h4) (key j e hj h1 h3)
      · rw [List.getElem?_set_ne hj] at h1 h3
        rw [List.getElem?_set_ne hl] at h2 h4
        exact s.ap j l e f b h1 h2 h3 h4
  · rw [upd_ne (nea (s.f0 b o h))]
    exact s.f0 b o h
/-- fewer slots are known -/
theorem Sl.forget {k : Kx} (s : Sl k A F0 F ρ σ Z) {ρ' : Rho} {σ' : L2.St} (l1 : ρ'.length = σ'.length) (h : ∀ (i : Nat) (x : Sv), ρ'[i]? = some x → x = .no ∨ (ρ[i]? = some x ∧ σ'[i]? = σ[i]?)) : Sl k A F0 F ρ' σ' Z := by
  refine ⟨l1, fun i d e => ?_, fun i d e => ?_, fun i j e => ?_, fun i j d e a h1 h2 h3 h4 => ?_, s.f0⟩
  · rcases h i _ e with z | ⟨z1, z2⟩
    · cases z
    · rw [z2]; exact s.fz i d z1
  · rcases h i _ e with z | ⟨z1, z2⟩
    · cases z
    · rw [z2]; exact s.own i d z1
  · rcases h i _ e with z | ⟨z1, z2⟩
    · cases z
    · rw [z2]; exact s.io i j z1
  · rcases h i _ h1 with z | ⟨z1, z2⟩
    · cases z
    · rcases h j _ h2 with z' | ⟨z3, z4⟩
      · cases z'
      · rw [z2] at h3
        rw [z4] at h4
        exact s.ap i j d e a z1 z3 h3 h4
/-- an own container becomes data -/
theorem frz_ok {k : Kx} {τ : Tau} {H : Hp} {i : Nat} (w : Wd k A F τ H Z) (s : Sl k A F0 F ρ σ Z) : ∃ F' Z', Wd k A F' τ H Z' ∧ Sl k A F0 F' (frzR i ρ) σ Z' ∧ Same Z Z' := by
  unfold frzR
  split
  · rename_i d hd
    obtain ⟨a, o, h1, h2, h3, h4⟩ := s.own i d hd
    have za : Z a = none := by
      rcases w.zf a with z | z
      · rw [h2] at z; cases z
      · exact z
    have hil : i < ρ.length := (List.getElem?_eq_some_iff.mp hd).1
    have nown : ∀ (j : Nat) (e : Hw.D), i ≠ j → ρ[j]? = some (.own e) → ∃ b u, σ[j]? = some (some (V.ref b)) ∧ F b = some u ∧ F0 b = none ∧ OwnO k Z e u ∧ b ≠ a := fun j e hj he => by
      obtain ⟨b, u, g1, g2, g3, g4⟩ := s.own j e he
      exact ⟨b, u, g1, g2, g3, g4, fun z => hj (s.ap i j d e a hd he h1 (z ▸ g1))⟩
    let F' : Hp := fun b => if b = a then none else F b
    have F'ne : ∀ {b}, b ≠ a → F' b = F b := fun {b} hb => if_neg hb
    have F'same : F' a = none := if_pos rfl
    have eF : upd F' a o = F := by
      funext b
      by_cases hb : b = a
      · subst hb; rw [upd_same, h2]
      · rw [upd_ne hb, F'ne hb]
    have w' : Wd k A (upd F' a o) τ H Z := by rw [eF]; exact w
    refine ⟨F', upd Z a o, w'.freeze F'same, ?_, same_new za⟩
    have s' := s.mono (same_new (o := o) za)
    refine ⟨by rw [List.length_set]; exact s.len, fun j e h => ?_, fun j e h => ?_, fun j l h => ?_, fun j l e f b g1 g2 g3 g4 => ?_, fun b u hb => ?_⟩
    · by_cases hj : i = j
      · subst hj
        rw [List.getElem?_set_self hil] at h
        cases h
        exact ⟨V.ref a, h1, rep_of_own h4 za⟩
      · rw [List.getElem?_set_ne hj] at h
        exact s'.fz j e h
    · by_cases hj : i = j
      · subst hj
        rw [List.getElem?_set_self hil] at h
        cases h
      · rw [List.getElem?_set_ne hj] at h
        obtain ⟨b, u, g1, g2, g3, g4, g5⟩ := nown j e hj h
        exact ⟨b, u, g1, by rw [F'ne g5]; exact g2, g3, g4.mono (same_new za)⟩
    · by_cases hj : i = j
      · subst hj
        rw [List.getElem?_set_self hil] at h
        cases h
      · rw [List.getElem?_set_ne hj] at h
        exact s.io j l h
    · have n1 : i ≠ j := fun z => by subst z; rw [List.getElem?_set_self hil] at g1; cases g1
      have n2 : i ≠ l := fun z => by subst z; rw [List.getElem?_set_self hil] at g2; cases g2
      rw [List.getElem?_set_ne n1] at g1
      rw [List.getElem?_set_ne n2] at g2
      exact s.ap j l e f b g1 g2 g3 g4
    · have : b ≠ a := fun z => by rw [z, h3] at hb; cases hb
      rw [F'ne this]
      exact s.f0 b u hb
  · exact ⟨F, Z, w, s, Same.refl Z⟩
theorem Wd.sub {k : Kx} {τ : Tau} {H : Hp} (w : Wd k A F τ H Z) (e : Same F0 F) : Wd k A F0 τ H Z :=
  ⟨w.zh, e.trans w.fh, fun a => (w.zf a).imp (fun z => none_of_same e z) id, w.len, w.io, fun a ha => ⟨(w.out a ha).1, none_of_same e (w.out a ha).2⟩, w.nd, w.tabs, fun a o h => w.pl a o (h.imp id (e a o))⟩
end

section
variable {X : Cx} {W : WX} {r : Bool} {st : Stmt} {rest : List Stmt} {m n : SS} {me : SE} {pos : Pos} {e : Expr}
theorem ps_weak {t t' : TS} (h : PS X st t) (hi : ∀ D σ H, t' D σ H → t D σ H) : PS X st t' := ⟨fun pins s σ H D I q => h.run pins s σ H D I (hi D σ H q)⟩
theorem pss_weak {sts : List Stmt} {t t' : TS} (h : PSs X sts t) (hi : ∀ D σ H, t' D σ H → t D σ H) : PSs X sts t' := ⟨fun pins s σ H D I q => h.run pins s σ H D I (hi D σ H q)⟩
theorem el_nil : EL X W r [] sNext := pss_weak pss_nil fun D σ H ⟨ρ, τ, A, F0, F, Z, w, s, q⟩ => AfterS.next q w s
theorem seq_ok : ∀ D σ H, tS (jx X W) r (sSeq m n) D σ H → tSeq (tS (jx X W) r m) (tS (jx X W) r n) D σ H := fun D σ H ⟨ρ, τ, A, F0, F, Z, w, s, q⟩ => by
  refine ⟨ρ, τ, A, F0, F, Z, w, s, ?_⟩
  unfold sSeq at q
  cases hm : m ρ τ with
  | nx ρ1 τ1 =>
    rw [hm] at q
    exact fun σ1 H1 Z1 F1 w1 s1 e => ⟨ρ1, τ1, A, F0, F1, Z1, w1, s1, AfterS.mono e q⟩
  | ret d τ1 => rw [hm] at q; exact q
  | brk ρ1 τ1 => rw [hm] at q; exact q
  | cnt ρ1 τ1 => rw [hm] at q; exact q
  | exc x ρ1 τ1 => rw [hm] at q; exact q
  | bad => rw [hm] at q; exact q
theorem el_cons (h1 : ES X W r st m) (h2 : EL X W r rest n) : EL X W r (st :: rest) (sSeq m n) := pss_weak (pss_cons h1 h2) seq_ok
theorem el_one (h1 : ES X W r st m) : EL X W r [st] m := pss_one h1
theorem es_pass : ES X W r (.Pass pos) sNext := ps_weak ps_pass fun D σ H ⟨ρ, τ, A, F0, F, Z, w, s, q⟩ => AfterS.next q w s
theorem es_brk : ES X W r (.Break pos) sBrk := ps_weak ps_break fun D σ H ⟨ρ, τ, A, F0, F, Z, w, s, q⟩ => q σ H Z F w s (Same.refl Z)
theorem es_cnt : ES X W r (.Continue pos) sCnt := ps_weak ps_continue fun D σ H ⟨ρ, τ, A, F0, F, Z, w, s, q⟩ => q σ H Z F w s (Same.refl Z)
theorem es_drop (h : EV X W e me) (hs : swapsWith e none pos.line X.env = pure false := by rfl) : ES X W r (.Expr e pos) (sDrop me) := ps_weak (ps_expr h hs) fun D σ H ⟨ρ, τ, A, F0, F, Z, w, s, q⟩ =>
  ⟨ρ, τ, A, F0, F, Z, w, s, After.andS q fun d τ1 H1 Z1 w1 e1 q1 v rv => AfterS.next q1 w1 (s.mono e1)⟩
theorem es_ret (h : EV X W e me) : ES X W false (.Return (some e) pos) (sRet me) := ps_weak (ps_ret h) fun D σ H ⟨ρ, τ, A, F0, F, Z, w, s, q⟩ =>
  ⟨ρ, τ, A, F0, F, Z, w, s, After.andS q fun d τ1 H1 Z1 w1 e1 q1 v rv => q1 H1 Z1 F v w1 s.f0 (Same.refl Z1) rv⟩
theorem es_retF (h : EF X W e me) : ES X W true (.Return (some e) pos) (sRet me) := ps_weak (ps_ret h) fun D σ H ⟨ρ, τ, A, F0, F, Z, w, s, q⟩ =>
  ⟨ρ, τ, A, F0, F, Z, w, s, AfterF.andS q fun d τ1 H1 Z1 a u fa na w1 e1 ho q1 => by
    have f1 : Same F (upd F a u) := same_new fa
    exact q1 H1 Z1 _ a u w1 (s.f0.trans f1) (Same.refl Z1) upd_same (none_of_same s.f0 fa) ho⟩
theorem es_retN : ES X W false (.Return none pos) (sRet (eC .non)) := ps_weak ps_retN fun D σ H ⟨ρ, τ, A, F0, F, Z, w, s, q⟩ => q H Z F .non w s.f0 (Same.refl Z) (rep_non.mpr rfl)
theorem es_retOwn (i : Nat) {x : Str} {p2 : Pos} (hN : X.N[i]? = some x := by rfl) (hv : Vis X.env.scope x := by first | exact Or.inl rfl | exact Or.inr (Or.inl rfl) | exact Or.inr (Or.inr rfl)) (hd : (x == ("__debug__" : Str)) = false := by decide)
    (hcd : (x == ("__classdict__" : Str)) = false := by decide) : ES X W true (.Return (some (.Name x p2)) pos) (sRetOwn i) := ps_weak (ps_ret (pe_var hN hv hd hcd)) fun D σ H ⟨ρ, τ, A, F0, F, Z, w, s, q⟩ => by
  unfold sRetOwn at q
  split at q
  · rename_i d hd
    obtain ⟨a, o, h1, h2, h3, h4⟩ := s.own i d hd
    exact ⟨.ref a, h1, q H Z F a o w s.f0 (Same.refl Z) h2 h3 h4⟩
  · exact q.elim
theorem es_if {t : ST} {c : Expr} {a b : List Stmt} (hc : ET X W c t) (ha : EL X W r a m) (hb : EL X W r b n) : ES X W r (.If c a b pos) (sIf t m n) := ps_weak (ps_if hc ha hb) fun D σ H ⟨ρ, τ, A, F0, F, Z, w, s, q⟩ =>
  ⟨ρ, τ, A, F0, F, Z, w, s, After.andS q fun d τ1 H1 Z1 w1 e1 q1 => by
    cases d with
    | true => exact ⟨ρ, τ1, A, F0, F, Z1, w1, s.mono e1, q1⟩
    | false => exact ⟨ρ, τ1, A, F0, F, Z1, w1, s.mono e1, q1⟩⟩
theorem set_ok {i : Nat} : ∀ D σ H, tS (jx X W) r (sSet i me) D σ H → tAsg (tE (jx X W) me) (gName i) D σ H := fun D σ H ⟨ρ, τ, A, F0, F, Z, w, s, q⟩ =>
  ⟨ρ, τ, A, F0, F, Z, w, s, After.andS q fun d τ1 H1 Z1 w1 e1 q1 v rv => AfterS.next q1 w1 ((s.mono e1).setFz rv)⟩
theorem setF_ok {i : Nat} : ∀ D σ H, tS (jx X W) r (sSetF i me) D σ H → tAsg (tF (jx X W) me) (gName i) D σ H := fun D σ H ⟨ρ, τ, A, F0, F, Z, w, s, q⟩ =>
  ⟨ρ, τ, A, F0, F, Z, w, s, AfterF.andS q fun d τ1 H1 Z1 a u fa na w1 e1 ho q1 => AfterS.next q1 w1 ((s.mono e1).setOwn fa ho)⟩
theorem es_set (i : Nat) {x : Str} {p2 : Pos} (he : EV X W e me) (hN : X.N.Nodup := by assumption) (hi : X.N[i]? = some x := by rfl) (hx : Loc X.env.scope x := by first | exact Or.inl rfl | exact Or.inr rfl) (hs : swapsWith e (some (.Name x p2)) pos.line X.env = pure false := by rfl)
    (hf : X.fn x = true ∨ X.env.scope.names.lookup x = some .local := by first | exact .inl rfl | exact .inr rfl | assumption) : ES X W r (.Assign [.Name x p2] e pos) (sSet i me) := ps_weak (ps_set hN hi hx he hs hf) set_ok
theorem es_setF (i : Nat) {x : Str} {p2 : Pos} (he : EF X W e me) (hN : X.N.Nodup := by assumption) (hi : X.N[i]? = some x := by rfl) (hx : Loc X.env.scope x := by first | exact Or.inl rfl | exact Or.inr rfl) (hs : swapsWith e (some (.Name x p2)) pos.line X.env = pure false := by rfl)
    (hf : X.fn x = true ∨ X.env.scope.names.lookup x = some .local := by first | exact .inl rfl | exact .inr rfl | assumption) : ES X W r (.Assign [.Name x p2] e pos) (sSetF i me) := ps_weak (ps_set hN hi hx he hs hf) setF_ok
/-- ahead of a statement: an own container becomes data -/
theorem es_frz (i : Nat) (h : ES X W r st m) : ES X W r st (sFrz i m) := ps_weak h fun D σ H ⟨ρ, τ, A, F0, F, Z, w, s, q⟩ =>
  let ⟨F', Z', w', s', e⟩ := frz_ok (i := i) w s
  ⟨frzR i ρ, τ, A, F0, F', Z', w', s', AfterS.mono e q⟩
end
end Hw
/-! Hw, part 4: targets, what is walked, for, while, comprehensions. -/
namespace Hw
open PySem PySem.Spec L2
variable [Tb]

/-! ### targets -/
abbrev SG := D → Rho → Option Rho
abbrev SGs := List D → Rho → Option Rho
def gN (i : Nat) : SG := fun d ρ => some (ρ.set i (.fz d))
def gsNil : SGs := fun ds ρ => match ds with
  | [] => some ρ
  | _ => none
def gsCons (g : SG) (r : SGs) : SGs := fun ds ρ => match ds with
  | [] => none
  | d :: ds => match g d ρ with
    | some ρ1 => r ds ρ1
    | none => none
def gT (g : SGs) : SG := fun d ρ => match d with
  | .tup ds => g ds ρ
  | .lst ds => g ds ρ
  | _ => none
/-- a target's reading: the slots at is may change -/
def tG (k : Kx) (is : List Nat) (g : SG) : TG := fun v σ H Q => ∃ ρ τ A F0 F Z d ρ', Wd k A F τ H Z ∧ Sl k A F0 F ρ σ Z ∧ Rep k Z d v ∧ g d ρ = some ρ' ∧ ∀ σ', Sl k A F0 F ρ' σ' Z → σ'.length = σ.length → (∀ i, i ∉ is → σ'[i]? = σ[i]?) → Q σ' H
def tGs (k : Kx) (is : List Nat) (g : SGs) : TGs := fun vs σ H Q => ∃ ρ τ A F0 F Z ds ρ', Wd k A F τ H Z ∧ Sl k A F0 F ρ σ Z ∧ Reps k Z ds vs ∧ g ds ρ = some ρ' ∧ ∀ σ', Sl k A F0 F ρ' σ' Z → σ'.length = σ.length → (∀ i, i ∉ is → σ'[i]? = σ[i]?) → Q σ' H
abbrev EG (X : Cx) (is : List Nat) (t : Expr) (g : SG) : Prop := PG X t (tG ⟨X.K, X.mg⟩ is g)
abbrev EGs (X : Cx) (is : List Nat) (t : List Expr) (g : SGs) : Prop := PGs X t (tGs ⟨X.K, X.mg⟩ is g)
section
variable {X : Cx} {is : List Nat} {pos : Pos} {g : SG} {gs : SGs} {e : Expr} {es : List Expr}
theorem pg_weak {t t' : TG} (h : PG X e t) (hi : ∀ v σ H Q, t' v σ H Q → t v σ H Q) : PG X e t' := ⟨fun pins s σ H v u Q I r q => h.run pins s σ H v u Q I r (hi v σ H Q q)⟩
theorem pgs_weak {t t' : TGs} (h : PGs X es t) (hi : ∀ v σ H Q, t' v σ H Q → t v σ H Q) : PGs X es t' := ⟨fun pins s σ H v u Q I r q => h.run pins s σ H v u Q I r (hi v σ H Q q)⟩
theorem eg_n (i : Nat) {x : Str} (hN : X.N.Nodup := by assumption) (hi : X.N[i]? = some x := by rfl) (hx : Loc X.env.scope x := by first | exact Or.inl rfl | exact Or.inr rfl) (hf : X.fn x = true ∨ X.env.scope.names.lookup x = some .local := by first | exact .inl rfl | exact .inr rfl | assumption) (hm : i ∈ is := by decide) : EG X is (.Name x pos) (gN i) :=
  pg_weak (pg_name hN hi hx hf) fun v σ H Q ⟨ρ, τ, A, F0, F, Z, d, ρ', w, s, rv, hg, q⟩ => by
    cases hg
    exact q _ (s.setFz rv) (List.length_set ..) fun j hj => List.getElem?_set_ne (fun z => hj (by rw [← z]; exact hm))
theorem egs_nil : EGs X is [] gsNil := pgs_weak pgs_nil fun vs σ H Q ⟨ρ, τ, A, F0, F, Z, ds, ρ', w, s, rv, hg, q⟩ => by
  cases ds with
  | nil =>
    cases hg
    exact ⟨reps_nil.mp rv, q σ s rfl fun _ _ => rfl⟩
  | cons d ds => cases hg
theorem egs_cons (h1 : EG X is e g) (h2 : EGs X is es gs) (hs : (assignEach (e :: es) X.env).map (·.2) = assign e X.env :: (assignEach es X.env).map (·.2) := by rfl) : EGs X is (e :: es) (gsCons g gs) := pgs_weak (pgs_cons h1 h2 hs) fun vs σ H Q ⟨ρ, τ, A, F0, F, Z, ds, ρ', w, s, rv, hg, q⟩ => by
  cases ds with
  | nil => cases hg
  | cons d ds =>
    obtain ⟨v, r, rfl, r1, r2⟩ := reps_cons.mp rv
    unfold gsCons at hg
    split at hg
    · cases hg
    · rename_i d' ds' heq
      cases heq
      split at hg
      · rename_i ρ1 hρ
        exact ⟨v, r, rfl, ρ, τ, A, F0, F, Z, d, ρ1, w, s, r1, hρ, fun σ1 s1 l1 u1 => ⟨ρ1, τ, A, F0, F, Z, ds, ρ', w, s1, r2, hg, fun σ2 s2 l2 u2 => q σ2 s2 (l2.trans l1) fun i hi => (u2 i hi).trans (u1 i hi)⟩⟩
      · cases hg
theorem sgs_len {n : Nat} : ∀ {l : List SG} {ds : List D} {ρ ρ' : Rho}, l.length = n → (l.foldr gsCons gsNil) ds ρ = some ρ' → ds.length = n
  | [], ds, ρ, ρ', hl, h => by
    cases ds with
    | nil => exact hl
    | cons d ds => cases h
  | g :: l, ds, ρ, ρ', hl, h => by
    cases ds with
    | nil => cases h
    | cons d ds =>
      have h : gsCons g (l.foldr gsCons gsNil) (d :: ds) ρ = some ρ' := h
      unfold gsCons at h
      dsimp only at h
      split at h
      · rename_i ρ1 e
        rw [← hl, List.length_cons, List.length_cons, sgs_len (n := l.length) rfl h]
      · cases h
/-- (a, b, ..) of a tuple or a list -/
theorem eg_tup {n : Nat} {j : Nat} (l : List SG) (hc : X.calm = true) (h : EGs X is es (l.foldr gsCons gsNil)) (hl : l.length = n := by rfl) (hn : (assignEach es X.env).length = n := by rfl) (hst : (assignEach es X.env).findIdx? (·.1) = none := by rfl) :
    EG X is (.Tuple es j pos) (gT (l.foldr gsCons gsNil)) := by
  have p1 := pg_tup (pos := pos) (k := j) hc h hn hst
  have p2 := pg_unl (pos := pos) (k := j) hc h hn hst
  refine ⟨fun pins s0 σ H v u Q I r q => ?_⟩
  obtain ⟨ρ, τ, A, F0, F, Z, d, ρ', w, s, rv, hg, q⟩ := q
  unfold gT at hg
  split at hg
  · rename_i ds
    obtain ⟨a, vs, e1, e2, e3⟩ := rep_tup.mp rv
    exact p1.run pins s0 σ H v u Q I r ⟨a, vs, e1, SqT.of (w.zh _ _ e2), e3.length.symm.trans (sgs_len hl hg), ρ, τ, A, F0, F, Z, ds, ρ', w, s, e3, hg, q⟩
  · rename_i ds
    obtain ⟨a, vs, e1, e2, e3⟩ := rep_lst.mp rv
    exact p2.run pins s0 σ H v u Q I r ⟨a, vs, e1, SqL.of (w.zh _ _ e2), e3.length.symm.trans (sgs_len hl hg), ρ, τ, A, F0, F, Z, ds, ρ', w, s, e3, hg, q⟩
  · cases hg
/-- targets of an assignment -/
theorem es_tgt {W : WX} {r : Bool} {me : SE} {v : Expr} {t : Expr} (he : EV X W v me) (hg : EG X is t g) (hs : swapsWithSole [t] v pos.line X.env = pure false := by rfl) (hw : swappedStores [t] v X.env = pure none := by rfl)
    (h1 : (assignEach [t] X.env).map (·.2) = [assign t X.env] := by rfl) : ES X W r (.Assign [t] v pos) (fun ρ τ => (me ρ τ).andS ρ fun d τ1 => match g d ρ with | some ρ1 => .nx ρ1 τ1 | none => .bad) :=
  ps_weak (ps_asg he hg hs hw h1) fun D σ H ⟨ρ, τ, A, F0, F, Z, w, s, q⟩ => ⟨ρ, τ, A, F0, F, Z, w, s, After.andS q fun d τ1 H1 Z1 w1 e1 q1 v rv => by
    cases hd : g d ρ with
    | none => rw [hd] at q1; exact q1.elim
    | some ρ1 =>
      rw [hd] at q1
      exact ⟨ρ, τ1, A, F0, F, Z1, d, ρ1, w1, s.mono e1, rv, hd, fun σ1 s1 _ _ => AfterS.next q1 w1 s1⟩⟩
end
def sTgt (g : SG) (m : SE) : SS := fun ρ τ => (m ρ τ).andS ρ fun d τ1 => match g d ρ with
  | some ρ1 => .nx ρ1 τ1
  | none => .bad

/-! ### what is walked -/
abbrev SI := Rho → Tau → Out (List D)
/-- the iterator yields ds, as long as Z (and F) stand -/
structure ItOk (k : Kx) (F Z : Hp) (J : It) (ds : List D) : Prop where
  go : ∀ (i : Nat) (H : Hp), Same Z H → Same F H → i < ds.length → J.go i H
  yld : ∀ (i : Nat) (H H' : Hp) (x : V) (d : D), Same Z H → Same F H → ds[i]? = some d → J.yld i H x H' → (H' = H ∧ Rep k Z d x) ∨ ∃ p o, isPl o = true ∧ H p = none ∧ H' = upd H p o ∧ Rep k (upd Z p o) d x
  stop : ∀ (i : Nat) (H : Hp), Same Z H → Same F H → ds.length ≤ i → J.stop i H
theorem ItOk.mono {k : Kx} {F Z F' Z' : Hp} {J : It} {ds : List D} (h : ItOk k F Z J ds) (eF : Same F F') (eZ : Same Z Z') : ItOk k F' Z' J ds where
  go := fun i H a b => h.go i H (eZ.trans a) (eF.trans b)
  stop := fun i H a b => h.stop i H (eZ.trans a) (eF.trans b)
  yld := fun i H H' x d a b e y => by
    rcases h.yld i H H' x d (eZ.trans a) (eF.trans b) e y with ⟨e1, r⟩ | ⟨p, o, pl, hp, e1, r⟩
    · exact .inl ⟨e1, r.mono eZ⟩
    · refine .inr ⟨p, o, pl, hp, e1, r.mono fun b u hb => ?_⟩
      by_cases h : b = p
      · subst h; rw [upd_same] at hb ⊢; exact hb
      · rw [upd_ne h] at hb ⊢; exact eZ b u hb
def nopH : Hp := fun _ => none
/-- walked data; walked data or an own container (in a comprehension alone) -/
def tIV (c : Jx) (m : SI) : TI := fun σ H R => ∃ ρ τ A F0 F Z, Wd c.k A F τ H Z ∧ Sl c.k A F0 F ρ σ Z ∧ After c A F0 F ρ σ Z (m ρ τ) fun ds _ H' Z' => ∀ J, ItOk c.k nopH Z' J ds → R J H'
def tIB (c : Jx) (m : SI) : TI := fun σ H R => ∃ ρ τ A F0 F Z, Wd c.k A F τ H Z ∧ Sl c.k A F0 F ρ σ Z ∧ After c A F0 F ρ σ Z (m ρ τ) fun ds _ H' Z' => ∀ J, ItOk c.k F Z' J ds → R J H'
abbrev EIV (X : Cx) (W : WX) (tg it : Expr) (m : SI) : Prop := PI X tg it (tIV (jx X W) m)
abbrev EIB (X : Cx) (W : WX) (tg it : Expr) (m : SI) : Prop := PI X tg it (tIB (jx X W) m)
def iLst (m : SE) : SI := fun ρ τ => (m ρ τ).bind fun d τ1 => match d with
  | .lst ds => .ok ds τ1
  | _ => .bad
def iTup (m : SE) : SI := fun ρ τ => (m ρ τ).bind fun d τ1 => match d with
  | .tup ds => .ok ds τ1
  | _ => .bad
/-- a list or a tuple -/
def iSeq (m : SE) : SI := fun ρ τ => (m ρ τ).bind fun d τ1 => match d with
  | .lst ds => .ok ds τ1
  | .tup ds => .ok ds τ1
  | _ => .bad
section
variable {X : Cx} {W : WX} {tg e : Expr} {m : SE} {mi : SI} {pos p : Pos}
theorem pi_weak {t t' : TI} (h : PI X tg e t) (hi : ∀ σ H R, t' σ H R → t σ H R) : PI X tg e t' := ⟨fun pins s σ H R I q => h.run pins s σ H R I (hi σ H R q)⟩
theorem eiv_b (h : EIV X W tg e mi) : EIB X W tg e mi := pi_weak h fun σ H R ⟨ρ, τ, A, F0, F, Z, w, s, q⟩ => ⟨ρ, τ, A, F0, F, Z, w, s, After.mono (Same.refl Z) (fun ds τ1 H1 Z1 q J hJ => q J (hJ.mono (fun _ _ z => nomatch z) (Same.refl Z1))) q⟩
theorem it_list {k : Kx} {F Z : Hp} {a : Addr} {vs : List V} {ds : List D} (h : ∀ H, Same Z H → Same F H → SqL k.K H a vs) (r : Reps k Z ds vs) : ItOk k F Z (Itl k.K a) ds where
  go := fun i H e f hi => ⟨vs, vs[i]'(by rw [← r.length]; exact hi), h H e f, List.getElem?_eq_getElem _⟩
  stop := fun i H e f hi => ⟨vs, h H e f, by rw [← r.length]; exact hi⟩
  yld := fun i H H' x d e f hd y => by
    obtain ⟨rfl, hx⟩ := y
    obtain ⟨v, h1, h2⟩ := r.get hd
    have := hx vs (h _ e f)
    rw [h1] at this
    cases this
    exact .inl ⟨rfl, h2⟩
theorem it_tuple {k : Kx} {F Z : Hp} {a : Addr} {vs : List V} {ds : List D} (h : SqT k.K Z a vs) (r : Reps k Z ds vs) : ItOk k F Z (Itt k.K a) ds where
  go := fun i H e f hi => ⟨vs, vs[i]'(by rw [← r.length]; exact hi), same_sqT e h, List.getElem?_eq_getElem _⟩
  stop := fun i H e f hi => ⟨vs, same_sqT e h, by rw [← r.length]; exact hi⟩
  yld := fun i H H' x d e f hd y => by
    obtain ⟨rfl, hx⟩ := y
    obtain ⟨v, h1, h2⟩ := r.get hd
    have := hx vs (same_sqT e h)
    rw [h1] at this
    cases this
    exact .inl ⟨rfl, h2⟩
theorem eiv_lst (h : EV X W e m) : EIV X W tg e (iLst m) := pi_weak (pi_list h) fun σ H R ⟨ρ, τ, A, F0, F, Z, w, s, q⟩ => ⟨ρ, τ, A, F0, F, Z, w, s, After.next q fun d τ1 H1 Z1 w1 e1 q1 v rv => by
  cases d with
  | lst ds =>
    obtain ⟨a, vs, h1, h2, h3⟩ := rep_lst.mp rv
    exact ⟨a, h1, ⟨vs, SqL.of (w1.zh _ _ h2)⟩, After.ok q1 w1 _ (it_list (fun H e _ => SqL.of (e _ _ h2)) h3)⟩
  | _ => exact q1.elim⟩
theorem eib_lst (h : EB X W e m) : EIB X W tg e (iLst m) := pi_weak (pi_list h) fun σ H R ⟨ρ, τ, A, F0, F, Z, w, s, q⟩ => ⟨ρ, τ, A, F0, F, Z, w, s, After.next q fun d τ1 H1 Z1 w1 e1 q1 v rv => by
  cases d with
  | lst ds =>
    rcases rv with rv | ⟨a, o, h1, h2, h3⟩
    · obtain ⟨a, vs, h1, h2, h3⟩ := rep_lst.mp rv
      exact ⟨a, h1, ⟨vs, SqL.of (w1.zh _ _ h2)⟩, After.ok q1 w1 _ (it_list (fun H e _ => SqL.of (e _ _ h2)) h3)⟩
    · obtain ⟨vs, rfl, h4⟩ := h3
      exact ⟨a, h1, ⟨vs, SqL.of (w1.fh _ _ h2)⟩, After.ok q1 w1 _ (it_list (fun H _ f => SqL.of (f _ _ h2)) h4)⟩
  | _ => exact q1.elim⟩
theorem eiv_tup (h : EV X W e m) : EIV X W tg e (iTup m) := pi_weak (pi_tup h) fun σ H R ⟨ρ, τ, A, F0, F, Z, w, s, q⟩ => ⟨ρ, τ, A, F0, F, Z, w, s, After.next q fun d τ1 H1 Z1 w1 e1 q1 v rv => by
  cases d with
  | tup ds =>
    obtain ⟨a, vs, h1, h2, h3⟩ := rep_tup.mp rv
    exact ⟨a, h1, ⟨vs, SqT.of (w1.zh _ _ h2)⟩, After.ok q1 w1 _ (it_tuple (SqT.of h2) h3)⟩
  | _ => exact q1.elim⟩
/-- a list or a tuple -/
theorem eiv_seq (h : EV X W e m) : EIV X W tg e (iSeq m) := by
  have p1 := pi_list (tg := tg) h
  have p2 := pi_tup (tg := tg) h
  refine ⟨fun pins s0 σ H R I q => ?_⟩
  obtain ⟨ρ, τ, A, F0, F, Z, w, s, q⟩ := q
  -- the kind of the value is known ahead
  cases hm : m ρ τ with
  | bad => unfold iSeq at q; rw [hm] at q; exact q.elim
  | exc x τ1 =>
    refine p1.run pins s0 σ H R I ⟨ρ, τ, A, F0, F, Z, w, s, ?_⟩
    unfold iSeq at q
    rw [hm] at q ⊢
    exact q
  | ok d τ1 =>
    unfold iSeq at q
    rw [hm] at q
    cases d with
    | lst ds =>
      refine p1.run pins s0 σ H R I ⟨ρ, τ, A, F0, F, Z, w, s, ?_⟩
      rw [hm]
      intro H1 Z1 w1 e1 v rv
      obtain ⟨a, vs, h1, h2, h3⟩ := rep_lst.mp rv
      exact ⟨a, h1, ⟨vs, SqL.of (w1.zh _ _ h2)⟩, q H1 Z1 w1 e1 _ (it_list (fun H e _ => SqL.of (e _ _ h2)) h3)⟩
    | tup ds =>
      refine p2.run pins s0 σ H R I ⟨ρ, τ, A, F0, F, Z, w, s, ?_⟩
      rw [hm]
      intro H1 Z1 w1 e1 v rv
      obtain ⟨a, vs, h1, h2, h3⟩ := rep_tup.mp rv
      exact ⟨a, h1, ⟨vs, SqT.of (w1.zh _ _ h2)⟩, q H1 Z1 w1 e1 _ (it_tuple (SqT.of h2) h3)⟩
    | _ => exact q.elim
end

/-! ### range -/
def iRng1 (m : SA) : SI := fun ρ τ => (m ρ τ).bind fun ds τ1 => match ds with
  | [.int j] => if -(2 ^ 62) ≤ j ∧ j < 2 ^ 62 then .ok ((List.range j.toNat).map fun (n : Nat) => .int n) τ1 else .bad
  | _ => .bad
def iRng2 (m : SA) : SI := fun ρ τ => (m ρ τ).bind fun ds τ1 => match ds with
  | [.int i, .int j] => if -(2 ^ 62) ≤ i ∧ i < 2 ^ 62 ∧ -(2 ^ 62) ≤ j ∧ j < 2 ^ 62 then .ok ((List.range (j - i).toNat).map fun (n : Nat) => .int (i + n)) τ1 else .bad
  | _ => .bad
section
variable {X : Cx} {W : WX} {tg a b : Expr} {m : SA} {pos p : Pos}
theorem it_range {k : Kx} {F Z : Hp} {lo : Int} {n : Nat} {ds : List D} (hd : ds = (List.range n).map fun (j : Nat) => .int (lo + j)) : ItOk k F Z (Itr lo n) ds where
  go := fun i H _ _ hi => by
    rw [hd, List.length_map, List.length_range] at hi
    exact hi
  stop := fun i H _ _ hi => by
    rw [hd, List.length_map, List.length_range] at hi
    exact hi
  yld := fun i H H' x d _ _ hx y => by
    obtain ⟨rfl, rfl⟩ := y
    rw [hd, List.getElem?_map] at hx
    obtain ⟨j, h1, h2⟩ := Option.map_eq_some_iff.mp hx
    rw [List.getElem?_range (by
      by_cases h : i < n
      · exact h
      · rw [List.getElem?_eq_none (by rw [List.length_range]; omega)] at h1; cases h1)] at h1
    cases h1
    subst h2
    exact .inl ⟨rfl, rep_int.mpr rfl⟩
theorem repBs1 {k : Kx} {F Z : Hp} {d : D} {vs : List V} (h : RepBs k F Z [d] vs) : ∃ v, vs = [v] ∧ RepB k F Z d v := by
  obtain ⟨v, r, rfl, h1, h2⟩ := h
  cases h2
  exact ⟨v, rfl, h1⟩
theorem repBs2 {k : Kx} {F Z : Hp} {d e : D} {vs : List V} (h : RepBs k F Z [d, e] vs) : ∃ v u, vs = [v, u] ∧ RepB k F Z d v ∧ RepB k F Z e u := by
  obtain ⟨v, r, rfl, h1, h2⟩ := h
  obtain ⟨u, rfl, h3⟩ := repBs1 h2
  exact ⟨v, u, rfl, h1, h3⟩
theorem eiv_rng1 (hg : Gl X "range") (hm : X.mg "range" = none) (ha : EA X W [a] m) (hs : starEach [a] X.env = [(false, eval a X.env)] := by rfl) : EIV X W tg (.Call (.Name "range" p) [a] [] pos) (iRng1 m) :=
  pi_weak (pi_range1 hg hm ha hs) fun σ H R ⟨ρ, τ, A, F0, F, Z, w, s, q⟩ => ⟨ρ, τ, A, F0, F, Z, w, s, After.next q fun ds τ1 H1 Z1 w1 e1 q1 vs rv => by
    split at q1
    · rename_i j
      split at q1
      · rename_i hj
        obtain ⟨v, rfl, r1⟩ := repBs1 rv
        exact ⟨j, by rw [r1.int], hj.1, hj.2, After.ok q1 w1 _ (it_range (by simp))⟩
      · exact q1.elim
    · exact q1.elim⟩
theorem eiv_rng2 (hg : Gl X "range") (hm : X.mg "range" = none) (ha : EA X W [a, b] m) (hs : starEach [a, b] X.env = [(false, eval a X.env), (false, eval b X.env)] := by rfl) (hs2 : starEach [b] X.env = [(false, eval b X.env)] := by rfl) :
    EIV X W tg (.Call (.Name "range" p) [a, b] [] pos) (iRng2 m) :=
  pi_weak (pi_range2 hg hm ha hs hs2) fun σ H R ⟨ρ, τ, A, F0, F, Z, w, s, q⟩ => ⟨ρ, τ, A, F0, F, Z, w, s, After.next q fun ds τ1 H1 Z1 w1 e1 q1 vs rv => by
    split at q1
    · rename_i i j
      split at q1
      · rename_i hj
        obtain ⟨v, u, rfl, r1, r2⟩ := repBs2 rv
        exact ⟨i, j, by rw [r1.int, r2.int], hj, After.ok q1 w1 _ (it_range rfl)⟩
      · exact q1.elim
    · exact q1.elim⟩
end

/-! ### for -/
def forL (g : SG) (body : SS) : List D → Rho → Tau → Fl
  | [], ρ, τ => .nx ρ τ
  | d :: ds, ρ, τ => match g d ρ with
    | none => .bad
    | some ρ1 => match body ρ1 τ with
      | .nx ρ2 τ2 => forL g body ds ρ2 τ2
      | .cnt ρ2 τ2 => forL g body ds ρ2 τ2
      | .brk ρ2 τ2 => .nx ρ2 τ2
      | .ret d τ2 => .ret d τ2
      | .exc e ρ2 τ2 => .exc e ρ2 τ2
      | .bad => .bad
def sFor (mi : SI) (g : SG) (body : SS) : SS := fun ρ τ => (mi ρ τ).andS ρ fun ds τ1 => forL g body ds ρ τ1
section
variable {X : Cx} {W : WX} {r : Bool} {tg it : Expr} {mi : SI} {g : SG} {is : List Nat} {body : List Stmt} {mb : SS} {pos : Pos}
theorem for_ok : ∀ D σ H, tS (jx X W) r (sFor mi g mb) D σ H → tFor (tIV (jx X W) mi) (tG ⟨X.K, X.mg⟩ is g) (tS (jx X W) r mb) D σ H := fun D σ H ⟨ρ, τ, A, F0, F, Z, w, s, q⟩ => by
  refine ⟨ρ, τ, A, F0, F, Z, w, s, After.andS q fun ds τ1 H1 Z1 w1 e1 q1 J hJ => ?_⟩
  refine ⟨fun i m σ' H' => i + m = ds.length ∧ ∃ ρ' τ' F' Z', Wd (jx X W).k A F' τ' H' Z' ∧ Sl (jx X W).k A F0 F' ρ' σ' Z' ∧ Same Z1 Z' ∧ AfterS (jx X W) r A F0 Z' D (forL g mb (ds.drop i) ρ' τ'),
    ⟨ds.length, by omega, ρ, τ1, F, Z1, w1, s.mono e1, Same.refl Z1, q1⟩, fun i m σ' H' ⟨hm, ρ', τ', F', Z', w', s', e', q'⟩ => ?_⟩
  have hJ' : ItOk (jx X W).k nopH Z' J ds := hJ.mono (Same.refl _) e'
  have nf : ∀ {H : Hp}, Same nopH H := fun {H} b o z => nomatch z
  by_cases hi : i < ds.length
  · refine .inr ⟨hJ'.go i H' w'.zh nf hi, fun σ2 H2 => ∃ ρ' τ' F' Z', Wd (jx X W).k A F' τ' H2 Z' ∧ Sl (jx X W).k A F0 F' ρ' σ2 Z' ∧ Same Z1 Z' ∧ AfterS (jx X W) r A F0 Z' D (forL g mb (ds.drop (i + 1)) ρ' τ'),
      fun σ2 H2 z => ⟨m - 1, by omega, by omega, z⟩, fun x H2 hy => ?_⟩
    have hd : ds.drop i = ds[i] :: ds.drop (i + 1) := List.drop_eq_getElem_cons hi
    have q2 : AfterS (jx X W) r A F0 Z' D (forL g mb (ds[i] :: ds.drop (i + 1)) ρ' τ') := by rw [← hd]; exact q'
    unfold forL at q2
    cases hg : g ds[i] ρ' with
    | none => rw [hg] at q2; exact q2.elim
    | some ρ1 =>
      rw [hg] at q2
      dsimp only at q2
      have fin : ∀ {H3 Z3 : Hp}, Wd (jx X W).k A F' τ' H3 Z3 → Same Z' Z3 → Rep (jx X W).k Z3 ds[i] x → tG ⟨X.K, X.mg⟩ is g x σ' H3 fun σ2 H2 => tS (jx X W) r mb { D with
          nx := fun σ2 H2 => ∃ ρ' τ' F' Z', Wd (jx X W).k A F' τ' H2 Z' ∧ Sl (jx X W).k A F0 F' ρ' σ2 Z' ∧ Same Z1 Z' ∧ AfterS (jx X W) r A F0 Z' D (forL g mb (ds.drop (i + 1)) ρ' τ')
          ct := fun σ2 H2 => ∃ ρ' τ' F' Z', Wd (jx X W).k A F' τ' H2 Z' ∧ Sl (jx X W).k A F0 F' ρ' σ2 Z' ∧ Same Z1 Z' ∧ AfterS (jx X W) r A F0 Z' D (forL g mb (ds.drop (i + 1)) ρ' τ')
          bk := D.nx } σ2 H2 := fun {H3 Z3} w3 e3 rx => by
        refine ⟨ρ', τ', A, F0, F', Z3, ds[i], ρ1, w3, s'.mono e3, rx, hg, fun σ2 s2 _ _ => ⟨ρ1, τ', A, F0, F', Z3, w3, s2, ?_⟩⟩
        cases hb : mb ρ1 τ' with
        | nx ρ2 τ2 =>
          rw [hb] at q2
          exact fun σ4 H4 Z4 F4 w4 s4 e4 => ⟨ρ2, τ2, F4, Z4, w4, s4, (e'.trans e3).trans e4, AfterS.mono (e3.trans e4) q2⟩
        | cnt ρ2 τ2 =>
          rw [hb] at q2
          exact fun σ4 H4 Z4 F4 w4 s4 e4 => ⟨ρ2, τ2, F4, Z4, w4, s4, (e'.trans e3).trans e4, AfterS.mono (e3.trans e4) q2⟩
        | brk ρ2 τ2 =>
          rw [hb] at q2
          exact fun σ4 H4 Z4 F4 w4 s4 e4 => q2 σ4 H4 Z4 F4 w4 s4 (e3.trans e4)
        | ret d τ2 =>
          rw [hb] at q2
          exact AfterS.mono (D := D) e3 q2
        | exc x ρ2 τ2 =>
          rw [hb] at q2
          exact AfterS.mono (D := D) e3 q2
        | bad => rw [hb] at q2; exact q2
      rcases hJ'.yld i H' H2 x ds[i] w'.zh nf (List.getElem?_eq_getElem hi) hy with ⟨rfl, rx⟩ | ⟨p, o, pl, hp, rfl, rx⟩
      · exact fin w' (Same.refl Z') rx
      · exact fin (w'.alloc hp pl) (same_new (none_of_same w'.zh hp)) rx
  · refine .inl ⟨hJ'.stop i H' w'.zh nf (by omega), ?_⟩
    rw [List.drop_of_length_le (by omega)] at q'
    exact AfterS.next q' w' s'
theorem es_for (hi : EIV X W tg it mi) (hg : EG X is tg g) (hb : EL X W r body mb) (hp : PassesOwn (model X.prog X.w) X.A X.env X.xe) (hc : X.calm = true := by rfl) (hs : ∀ x, foldedSetIterable it X.env x = pure x := by intro _; rfl) : ES X W r (.For tg it body [] pos) (sFor mi g mb) := ps_weak (ps_for hp hc hi hg hb hs) for_ok
end

/-! ### while -/
def whileL (t : ST) (body : SS) : Nat → Rho → Tau → Fl
  | 0, _, _ => .bad
  | n + 1, ρ, τ => (t ρ τ).andS ρ fun b τ1 => if b = true then (match body ρ τ1 with
      | .nx ρ2 τ2 => whileL t body n ρ2 τ2
      | .cnt ρ2 τ2 => whileL t body n ρ2 τ2
      | .brk ρ2 τ2 => .nx ρ2 τ2
      | .ret d τ2 => .ret d τ2
      | .exc e ρ2 τ2 => .exc e ρ2 τ2
      | .bad => .bad) else .nx ρ τ1
section
variable {X : Cx} {W : WX} {r : Bool} {c : Expr} {t : ST} {body : List Stmt} {mb : SS} {pos : Pos}
theorem while_ok (n : Nat) : ∀ D σ H, tS (jx X W) r (whileL t mb n) D σ H → tWhile (tT (jx X W) t) (tS (jx X W) r mb) D σ H := fun D σ H ⟨ρ, τ, A, F0, F, Z, w, s, q⟩ => by
  refine ⟨fun m σ' H' => ∃ ρ' τ' F' Z', Wd (jx X W).k A F' τ' H' Z' ∧ Sl (jx X W).k A F0 F' ρ' σ' Z' ∧ Same Z Z' ∧ AfterS (jx X W) r A F0 Z' D (whileL t mb m ρ' τ'), ⟨n, ρ, τ, F, Z, w, s, Same.refl Z, q⟩, fun m σ' H' ⟨ρ', τ', F', Z', w', s', e', q'⟩ => ?_⟩
  cases m with
  | zero => exact q'.elim
  | succ m =>
    unfold whileL at q'
    refine ⟨ρ', τ', A, F0, F', Z', w', s', After.andS q' fun b τ1 H1 Z1 w1 e1 q1 => ?_⟩
    cases b with
    | false =>
      have q1 : AfterS (jx X W) r A F0 Z1 D (.nx ρ' τ1) := q1
      exact AfterS.next q1 w1 (s'.mono e1)
    | true =>
      show ∃ N : L2.St → Hp → Prop, _
      rw [if_pos rfl] at q1
      refine ⟨fun σ2 H2 => ∃ ρ' τ' F' Z', Wd (jx X W).k A F' τ' H2 Z' ∧ Sl (jx X W).k A F0 F' ρ' σ2 Z' ∧ Same Z Z' ∧ AfterS (jx X W) r A F0 Z' D (whileL t mb m ρ' τ'), fun σ2 H2 z => ⟨m, Nat.lt_succ_self m, z⟩, ρ', τ1, A, F0, F', Z1, w1, s'.mono e1, ?_⟩
      cases hb : mb ρ' τ1 with
      | nx ρ2 τ2 =>
        rw [hb] at q1
        exact fun σ4 H4 Z4 F4 w4 s4 e4 => ⟨ρ2, τ2, F4, Z4, w4, s4, (e'.trans e1).trans e4, AfterS.mono e4 q1⟩
      | cnt ρ2 τ2 =>
        rw [hb] at q1
        exact fun σ4 H4 Z4 F4 w4 s4 e4 => ⟨ρ2, τ2, F4, Z4, w4, s4, (e'.trans e1).trans e4, AfterS.mono e4 q1⟩
      | brk ρ2 τ2 => rw [hb] at q1; exact q1
      | ret d τ2 => rw [hb] at q1; exact q1
      | exc x ρ2 τ2 => rw [hb] at q1; exact q1
      | bad => rw [hb] at q1; exact q1
theorem es_while (n : Nat) (ht : ET X W c t) (hb : EL X W r body mb) (hp : PassesOwn (model X.prog X.w) X.A X.env X.xe) : ES X W r (.While c body [] pos) (whileL t mb n) := ps_weak (ps_while hp ht hb) (while_ok n)
end
end Hw
/-! Hw, part 5: comprehensions. -/
namespace Hw
open PySem PySem.Spec L2
variable [Tb]

def wipeR (ρ : Rho) : List Nat → Rho
  | [] => ρ
  | v :: vs => (wipeR ρ vs).set v .no
theorem wipeR_length (ρ : Rho) : ∀ vs : List Nat, (wipeR ρ vs).length = ρ.length
  | [] => rfl
  | v :: vs => by unfold wipeR; rw [List.length_set, wipeR_length ρ vs]
theorem wipeR_get {ρ : Rho} {i : Nat} {x : Sv} : ∀ {vs : List Nat}, (wipeR ρ vs)[i]? = some x → x = .no ∨ (ρ[i]? = some x ∧ i ∉ vs)
  | [], h => .inr ⟨h, by simp⟩
  | v :: vs, h => by
    unfold wipeR at h
    by_cases hi : v = i
    · subst hi
      by_cases hv : v < (wipeR ρ vs).length
      · rw [List.getElem?_set_self hv] at h; cases h; exact .inl rfl
      · rw [List.getElem?_eq_none (by simpa using hv)] at h; cases h
    · rw [List.getElem?_set_ne hi] at h
      rcases wipeR_get h with z | ⟨z1, z2⟩
      · exact .inl z
      · exact .inr ⟨z1, by simp only [List.mem_cons, not_or]; exact ⟨fun e => hi e.symm, z2⟩⟩
theorem wipe_get {σ : L2.St} {i : Nat} : ∀ {vs : List Nat}, i ∉ vs → (wipe σ vs)[i]? = σ[i]?
  | [], _ => rfl
  | v :: vs, h => by
    have h1 : i ≠ v := fun z => h (by rw [z]; exact List.mem_cons_self)
    have h2 : i ∉ vs := fun z => h (List.mem_cons_of_mem _ z)
    unfold wipe
    rw [List.getElem?_set_ne (Ne.symm h1)]
    exact wipe_get h2
theorem wipe_in {σ : L2.St} {i : Nat} : ∀ {vs : List Nat}, i ∈ vs → i < σ.length → (wipe σ vs)[i]? = some none
  | v :: vs, h, hl => by
    unfold wipe
    by_cases hv : v = i
    · subst hv
      exact List.getElem?_set_self (by rw [wipe_length]; exact hl)
    · rw [List.getElem?_set_ne hv]
      exact wipe_in ((List.mem_cons.mp h).resolve_left (fun z => hv z.symm)) hl
theorem wipe_eq {σ τ : L2.St} {vs : List Nat} (hl : τ.length = (wipe σ vs).length) (h : ∀ i, i ∉ vs → τ[i]? = (wipe σ vs)[i]?) : wipe τ vs = wipe σ vs := by
  apply List.ext_getElem?
  intro i
  by_cases hi : i ∈ vs
  · by_cases hb : i < σ.length
    · rw [wipe_in hi hb, wipe_in hi (by rw [hl, wipe_length]; exact hb)]
    · rw [List.getElem?_eq_none (by rw [wipe_length, hl, wipe_length]; omega), List.getElem?_eq_none (by rw [wipe_length]; omega)]
  · rw [wipe_get hi, h i hi]

/-- nothing is raised in a comprehension -/
def noX {α : Type} (o : Out α) : Out α := match o with
  | .ok a τ => .ok a τ
  | _ => .bad
def lcL (g : SG) (t : ST) (m : SE) (ρ : Rho) : List D → Tau → Out (List D)
  | [], τ => .ok [] τ
  | d :: ds, τ => match g d ρ with
    | none => .bad
    | some ρ1 => (noX (t ρ1 τ)).bind fun b τ1 => if b = true then (noX (m ρ1 τ1)).bind fun y τ2 => (lcL g t m ρ ds τ2).bind fun ys τ3 => .ok (y :: ys) τ3 else lcL g t m ρ ds τ1
def eLc (mi : SI) (g : SG) (vs : List Nat) (t : ST) (m : SE) : SE := fun ρ τ => (mi ρ τ).bind fun ds τ1 => (lcL g t m (wipeR ρ vs) ds τ1).bind fun ys τ2 => if ys.length ≤ sizeLine then .ok (.lst ys) τ2 else .bad
def tYes : ST := fun _ τ => .ok true τ
abbrev WF : WX := fun _ _ _ _ => False
abbrev ETs (X : Cx) (W : WX) (e : List Expr) (m : ST) : Prop := PTs X e (tT (jx X W) m)

section
variable {X : Cx} {W : WX} {c : Jx}
theorem ets_nil : ETs X W [] tYes := ⟨fun pins s σ H Q I ⟨ρ, τ, A, F0, F, Z, w, sl, q⟩ => pts_nil.run pins s σ H Q I (After.ok q w)⟩
theorem ets_one {e : Expr} {t : ST} (h : ET X W e t) : ETs X W [e] t := pts_one h
theorem noX_bind {α β : Type} {o : Out α} {f : α → Tau → Out β} {a : β} {τ : Tau} (h : (noX o).bind f = .ok a τ) : ∃ b τ1, o = .ok b τ1 ∧ f b τ1 = .ok a τ := by
  cases o with
  | ok b τ1 => exact ⟨b, τ1, rfl, h⟩
  | exc e τ1 => cases h
  | bad => cases h
theorem bind_ok {α β : Type} {o : Out α} {f : α → Tau → Out β} {a : β} {τ : Tau} (h : o.bind f = .ok a τ) : ∃ b τ1, o = .ok b τ1 ∧ f b τ1 = .ok a τ := by
  cases o with
  | ok b τ1 => exact ⟨b, τ1, rfl, h⟩
  | exc e τ1 => cases h
  | bad => cases h
theorem lcL_noexc {g : SG} {t : ST} {m : SE} {ρ : Rho} : ∀ {ds : List D} {τ : Tau} {e : Exc} {τ' : Tau}, lcL g t m ρ ds τ ≠ .exc e τ'
  | [], _, _, _, h => by cases h
  | d :: ds, τ, e, τ', h => by
    unfold lcL at h
    cases hg : g d ρ with
    | none => rw [hg] at h; cases h
    | some ρ1 =>
      rw [hg] at h
      dsimp only at h
      cases ht : t ρ1 τ with
      | ok b τ1 =>
        rw [ht] at h
        cases b with
        | false => exact lcL_noexc (show lcL g t m ρ ds τ1 = .exc e τ' from h)
        | true =>
          cases hm : m ρ1 τ1 with
          | ok y τ2 =>
            have h : ((noX (m ρ1 τ1)).bind fun y τ2 => (lcL g t m ρ ds τ2).bind fun ys τ3 => .ok (y :: ys) τ3) = .exc e τ' := h
            rw [hm] at h
            cases hr : lcL g t m ρ ds τ2 with
            | ok ys τ3 =>
              have h : ((lcL g t m ρ ds τ2).bind fun ys τ3 => .ok (y :: ys) τ3) = .exc e τ' := h
              rw [hr] at h
              cases h
            | exc e1 τ3 => exact lcL_noexc hr
            | bad =>
              have h : ((lcL g t m ρ ds τ2).bind fun ys τ3 => .ok (y :: ys) τ3) = .exc e τ' := h
              rw [hr] at h
              cases h
          | exc e1 τ2 =>
            have h : ((noX (m ρ1 τ1)).bind fun y τ2 => (lcL g t m ρ ds τ2).bind fun ys τ3 => .ok (y :: ys) τ3) = .exc e τ' := h
            rw [hm] at h
            cases h
          | bad =>
            have h : ((noX (m ρ1 τ1)).bind fun y τ2 => (lcL g t m ρ ds τ2).bind fun ys τ3 => .ok (y :: ys) τ3) = .exc e τ' := h
            rw [hm] at h
            cases h
      | exc e1 τ1 => rw [ht] at h; cases h
      | bad => rw [ht] at h; cases h

/-- a list that is being made stands apart -/
theorem Wd.acc {k : Kx} {A : List Addr} {F : Hp} {τ : Tau} {H Z : Hp} {p : Addr} {o u : HO} (w : Wd k A (upd F p o) τ H Z) (hu : isPl u = true) : Wd k A (upd F p u) τ (upd H p u) Z := by
  have zp : Z p = none := by
    rcases w.zf p with z | z
    · rw [upd_same] at z; cases z
    · exact z
  have ap : ∀ a ∈ A, a ≠ p := fun a ha e => by
    have := (w.out a ha).2
    rw [e, upd_same] at this
    cases this
  refine ⟨fun a x e => ?_, fun a x e => ?_, fun a => ?_, w.len, fun j a d e1 e2 => ?_, fun a ha => ?_, w.nd, tabs_no w.tabs (w.fh p o upd_same) (w.pl p o (.inr upd_same)), fun a x e => ?_⟩
  rotate_right
  · by_cases h : a = p
    · subst h
      rcases e with e | e
      · exact w.pl a x (.inl e)
      · rw [upd_same] at e; cases e; exact hu
    · rw [upd_ne h] at e
      exact w.pl a x (by rw [upd_ne h]; exact e)
  · rw [upd_ne (ne_of_none e zp)]; exact w.zh a x e
  · by_cases h : a = p
    · subst h; rw [upd_same] at e ⊢; exact e
    · rw [upd_ne h] at e ⊢; exact w.fh a x (by rw [upd_ne h]; exact e)
  · by_cases h : a = p
    · subst h; exact .inr zp
    · have := w.zf a
      rw [upd_ne h] at this ⊢
      exact this
  · obtain ⟨x, h1, h2⟩ := w.io j a d e1 e2
    have : a ≠ p := ap a (List.mem_of_getElem? e1)
    exact ⟨x, by rw [upd_ne this]; exact h1, h2⟩
  · have := w.out a ha
    rw [upd_ne (ap a ha)] at this ⊢
    exact this
theorem Sl.acc {k : Kx} {A : List Addr} {F0 F : Hp} {ρ : Rho} {σ : L2.St} {Z : Hp} {p : Addr} {o : HO} (s : Sl k A F0 F ρ σ Z) (h : F p = none) : Sl k A F0 (upd F p o) ρ σ Z :=
  ⟨s.len, s.fz, fun i d e => let ⟨a, u, h1, h2, h3, h4⟩ := s.own i d e; ⟨a, u, h1, by rw [upd_ne (ne_of_none h2 h)]; exact h2, h3, h4⟩, s.io, s.ap, s.f0.trans (same_new h)⟩
theorem Sl.wipe {k : Kx} {A : List Addr} {F0 F : Hp} {ρ : Rho} {σ : L2.St} {Z : Hp} (s : Sl k A F0 F ρ σ Z) (vs : List Nat) : Sl k A F0 F (wipeR ρ vs) (L2.wipe σ vs) Z :=
  s.forget (by rw [wipeR_length, wipe_length]; exact s.len) fun i x h => (wipeR_get h).imp id fun ⟨h1, h2⟩ => ⟨h1, wipe_get h2⟩

theorem lc_ok {mi : SI} {g : SG} {is vs : List Nat} {t : ST} {m : SE} (his : ∀ i ∈ is, i ∈ vs) : ∀ σ H Q, tF (jx X W) (eLc mi g vs t m) σ H Q → tLc (tIB (jx X W) mi) (tG ⟨X.K, X.mg⟩ is g) (tT (jx X WF) t) (tE (jx X WF) m) vs σ H Q := fun σ H Q ⟨ρ, τ, A, F0, F, Z, w, s, q⟩ => by
  refine ⟨ρ, τ, A, F0, F, Z, w, s, AfterF.next q fun ds τ1 H1 Z1 w1 e1 q1 J hJ D hD => ?_⟩
  have fD := none_of_same w1.fh hD
  have aD : D ∉ A := fun ha => by
    obtain ⟨u, hu⟩ := w1.a_some ha
    rw [hD] at hu
    cases hu
  -- the answer is a list
  obtain ⟨ys, τf, hl, q2⟩ : ∃ ys τf, lcL g t m (wipeR ρ vs) ds τ1 = .ok ys τf ∧ (ys.length ≤ sizeLine ∧ AfterF (jx X W) A F0 F ρ σ Z1 (.ok (.lst ys) τf) Q) := by
    cases hl : lcL g t m (wipeR ρ vs) ds τ1 with
    | bad => rw [hl] at q1; exact q1.elim
    | exc e τ2 => exact absurd hl lcL_noexc
    | ok ys τ2 =>
      rw [hl] at q1
      refine ⟨ys, τ2, rfl, ?_⟩
      have q1 : AfterF (jx X W) A F0 F ρ σ Z1 (if ys.length ≤ sizeLine then .ok (.lst ys) τ2 else .bad) Q := q1
      by_cases h : ys.length ≤ sizeLine
      · rw [if_pos h] at q1; exact ⟨h, q1⟩
      · rw [if_neg h] at q1; exact q1.elim
  obtain ⟨hys, q2⟩ := q2
  refine ⟨fun i n H' => i + n = ds.length ∧ ∃ τ' Z' acc as rs, Wd (jx X W).k A (upd F D (.lst acc)) τ' H' Z' ∧ Same Z1 Z' ∧ Reps (jx X W).k Z' as acc ∧ lcL g t m (wipeR ρ vs) (ds.drop i) τ' = .ok rs τf ∧ as ++ rs = ys,
    ⟨ds.length, by omega, τ1, Z1, [], [], ys, w1.allocF hD rfl, Same.refl Z1, Reps.nil, hl, rfl⟩, fun i n H' ⟨hn, τ', Z', acc, as, rs, w', e', ra, hr, hy⟩ => ?_⟩
  have sF : Same F H' := fun b o hb => w'.fh b o (by rw [upd_ne (ne_of_none hb fD)]; exact hb)
  have hJ' : ItOk (jx X W).k F Z' J ds := hJ.mono (Same.refl _) e'
  by_cases hi : i < ds.length
  · refine .inr ⟨hJ'.go i H' w'.zh sF hi, fun H2 => ∃ τ' Z' acc as rs, Wd (jx X W).k A (upd F D (.lst acc)) τ' H2 Z' ∧ Same Z1 Z' ∧ Reps (jx X W).k Z' as acc ∧ lcL g t m (wipeR ρ vs) (ds.drop (i + 1)) τ' = .ok rs τf ∧ as ++ rs = ys,
      fun H2 z => ⟨n - 1, by omega, by omega, z⟩, fun x H2 hyl => ?_⟩
    have hd : ds.drop i = ds[i] :: ds.drop (i + 1) := List.drop_eq_getElem_cons hi
    rw [hd] at hr
    unfold lcL at hr
    cases hg : g ds[i] (wipeR ρ vs) with
    | none => rw [hg] at hr; cases hr
    | some ρ1 =>
      rw [hg] at hr
      dsimp only at hr
      obtain ⟨b, τt, ht, hr⟩ := noX_bind hr
      have fin : ∀ {H3 Z3 : Hp}, Wd (jx X W).k A (upd F D (.lst acc)) τ' H3 Z3 → Same Z' Z3 → Rep (jx X W).k Z3 ds[i] x → tG ⟨X.K, X.mg⟩ is g x (L2.wipe σ vs) H3 fun σ2 H2 => L2.wipe σ2 vs = L2.wipe σ vs ∧ tT (jx X WF) t σ2 H2 fun b H3 =>
          if b = true then tE (jx X WF) m σ2 H3 fun y H4 => ∃ acc, H4 D = some (.lst acc) ∧ acc.length < sizeLine ∧ ∃ τ' Z' acc' as rs, Wd (jx X W).k A (upd F D (.lst acc')) τ' (upd H4 D (.lst (acc ++ [y]))) Z' ∧ Same Z1 Z' ∧ Reps (jx X W).k Z' as acc' ∧ lcL g t m (wipeR ρ vs) (ds.drop (i + 1)) τ' = .ok rs τf ∧ as ++ rs = ys
          else ∃ τ' Z' acc as rs, Wd (jx X W).k A (upd F D (.lst acc)) τ' H3 Z' ∧ Same Z1 Z' ∧ Reps (jx X W).k Z' as acc ∧ lcL g t m (wipeR ρ vs) (ds.drop (i + 1)) τ' = .ok rs τf ∧ as ++ rs = ys := fun {H3 Z3} w3 e3 rx => by
        have s3 : Sl (jx X W).k A F0 (upd F D (.lst acc)) (wipeR ρ vs) (L2.wipe σ vs) Z3 := ((s.mono ((e1.trans e').trans e3)).wipe vs).acc fD
        refine ⟨wipeR ρ vs, τ', A, F0, upd F D (.lst acc), Z3, ds[i], ρ1, w3, s3, rx, hg, fun σ2 s2 l2 u2 => ⟨wipe_eq l2 fun j hj => u2 j fun z => hj (his j z), ?_⟩⟩
        refine ⟨ρ1, τ', A, F0, upd F D (.lst acc), Z3, w3, s2, ?_⟩
        rw [ht]
        intro H4 Z4 w4 e4
        cases b with
        | false =>
          exact ⟨τt, Z4, acc, as, rs, w4, (e'.trans e3).trans e4, ra.mono (e3.trans e4), hr, hy⟩
        | true =>
          have hr : ((noX (m ρ1 τt)).bind fun y τ2 => (lcL g t m (wipeR ρ vs) (ds.drop (i + 1)) τ2).bind fun ys τ3 => .ok (y :: ys) τ3) = .ok rs τf := hr
          obtain ⟨y, τm, hm, hr⟩ := noX_bind hr
          obtain ⟨rs', τr, hrr, hr⟩ := bind_ok hr
          cases hr
          refine ⟨ρ1, τt, A, F0, upd F D (.lst acc), Z4, w4, s2.mono e4, ?_⟩
          rw [hm]
          intro H5 Z5 w5 e5 v rv
          refine ⟨acc, w5.fh D _ upd_same, ?_, τm, Z5, acc ++ [v], as ++ [y], rs', w5.acc rfl, ((e'.trans e3).trans e4).trans e5, (ra.mono ((e3.trans e4).trans e5)).append (Reps.cons rv Reps.nil), hrr, by rw [List.append_assoc]; exact hy⟩
          have : ys.length = as.length + (rs'.length + 1) := by rw [← hy, List.length_append, List.length_cons]
          rw [← ra.length]
          omega
      rcases hJ'.yld i H' H2 x ds[i] w'.zh sF (List.getElem?_eq_getElem hi) hyl with ⟨rfl, rx⟩ | ⟨p, o, pl, hp, rfl, rx⟩
      · exact fin w' (Same.refl Z') rx
      · exact fin (w'.alloc hp pl) (same_new (none_of_same w'.zh hp)) rx
  · refine .inl ⟨hJ'.stop i H' w'.zh sF (by omega), ?_⟩
    rw [List.drop_of_length_le (by omega)] at hr
    cases hr
    rw [List.append_nil] at hy
    subst hy
    exact q2 H' Z' D (.lst acc) fD aD w' e' ⟨acc, rfl, ra⟩

variable {elt tg iter : Expr} {ifs : List Expr} {scope : Scope} {pos : Pos} {mi : SI} {g : SG} {is : List Nat} {t : ST} {m : SE}
theorem ef_lc (own : List (Str × Nat)) (hi : EIB X W tg iter mi) (ok : BlkOk X.N X.env.scope scope own)
    (hg : ∀ (s : Shared) (H : Hp) (C : Addr) (cl : List (Str × Addr)) (fp : List Addr), EG (X.blk s H scope (compEnvC scope cl C X.env) fp) is tg g) (ht : ∀ (s : Shared) (H : Hp) (C : Addr) (cl : List (Str × Addr)) (fp : List Addr), ETs (X.blk s H scope (compEnvC scope cl C X.env) fp) WF ifs t)
    (he : ∀ (s : Shared) (H : Hp) (C : Addr) (cl : List (Str × Addr)) (fp : List Addr), EV (X.blk s H scope (compEnvC scope cl C X.env) fp) WF elt m) (his : ∀ i ∈ is, i ∈ own.map (·.2) := by decide) (hN : X.N.Nodup := by assumption) (hc : X.calm = true := by rfl) (hs : ∀ x, foldedSetIterable iter X.env x = pure x := by intro _; rfl) :
    EF X W (.ListComp elt [⟨tg, iter, ifs, 0⟩] scope pos) (eLc mi g (own.map (·.2)) t m) := pe_weak (pe_lc hc hN hi ok hg ht he hs) (lc_ok his)
/-- name = [..] -/
theorem es_setLc (i : Nat) (own : List (Str × Nat)) {y : Str} {py spos : Pos} {r : Bool} (hi : EIB X W tg iter mi) (ok : BlkOk X.N X.env.scope scope own)
    (hg : ∀ (s : Shared) (H : Hp) (C : Addr) (cl : List (Str × Addr)) (fp : List Addr), EG (X.blk s H scope (compEnvC scope cl C X.env) fp) is tg g) (ht : ∀ (s : Shared) (H : Hp) (C : Addr) (cl : List (Str × Addr)) (fp : List Addr), ETs (X.blk s H scope (compEnvC scope cl C X.env) fp) WF ifs t)
    (he : ∀ (s : Shared) (H : Hp) (C : Addr) (cl : List (Str × Addr)) (fp : List Addr), EV (X.blk s H scope (compEnvC scope cl C X.env) fp) WF elt m) (his : ∀ i ∈ is, i ∈ own.map (·.2) := by decide) (hN : X.N.Nodup := by assumption) (hc : X.calm = true := by rfl) (hy : X.N[i]? = some y := by rfl) (hyl : X.env.scope.names.lookup y = some .local := by rfl)
    (hsw : swapsWith (.ListComp elt [⟨tg, iter, ifs, 0⟩] scope pos) (some (.Name y py)) spos.line X.env = pure true := by exact sw_true rfl rfl rfl (by decide +kernel)) (hs : ∀ x, foldedSetIterable iter X.env x = pure x := by intro _; rfl) :
    ES X W r (.Assign [.Name y py] (.ListComp elt [⟨tg, iter, ifs, 0⟩] scope pos) spos) (sSetF i (eLc mi g (own.map (·.2)) t m)) := ps_weak (ps_setLc hc hN hy hyl hsw hi ok hg ht he hs) fun D σ H q => by
  obtain ⟨ρ, τ, A, F0, F, Z, w, s, q⟩ := q
  exact lc_ok his σ H _ ⟨ρ, τ, A, F0, F, Z, w, s, AfterF.andS q fun d τ1 H1 Z1 a u fa na w1 e1 ho q1 => AfterS.next q1 w1 ((s.mono e1).setOwn fa ho)⟩
end
end Hw
/-! Hw, part 6: what a def promises, its body, its calls. -/
namespace Hw
open PySem PySem.Spec L2
variable [Tb]
open PyProof.Rows (envOfC)

/-- a def as a function of its argument slots and the lent objects -/
abbrev MF := Rho → Tau → Out D
/-- the promise of a def; r: its answer is a new container -/
def SpOf (k : Kx) (r : Bool) (n : Nat) (mf : MF) : Sp := fun vs H Q E => vs.length = n ∧ ∃ ρ τ A F Z, Wd k A F τ H Z ∧ Sl k A F F ρ (vs.map some) Z ∧ match mf ρ τ with
  | .ok d τ' => if r = true then ∀ H' Z' a o, F a = none → a ∉ A → Wd k A (upd F a o) τ' H' Z' → Same Z Z' → OwnO k Z' d o → Q (.ref a) H'
      else ∀ H' Z' v, Wd k A F τ' H' Z' → Same Z Z' → Rep k Z' d v → Q v H'
  | .exc e τ' => ∀ cls dx H' Z', Wd k A F τ' H' Z' → Same Z Z' → RepX k F Z' H' e cls dx → E cls dx H'
  | .bad => False
/-- the function of a body; N: how many slots -/
def runB (r : Bool) (N : Nat) (mb : SS) : MF := fun ρ τ => match mb (ρ ++ List.replicate (N - ρ.length) .no) τ with
  | .ret d τ' => .ok d τ'
  | .nx _ τ' => if r = true then .bad else .ok .non τ'
  | .exc e _ τ' => .exc e τ'
  | _ => .bad
/-- what the body of a def wishes of an exception -/
abbrev WX0 (E : XK) : WX := fun cls d _ H => E cls d H

theorem Sl.start {k : Kx} {A : List Addr} {F : Hp} {ρ : Rho} {vs : List V} {Z : Hp} {N : List Str} (s : Sl k A F F ρ (vs.map some) Z) : Sl k A F F (ρ ++ List.replicate (N.length - ρ.length) .no) (L2.start N vs) Z := by
  have hl : ρ.length = vs.length := by rw [s.len, List.length_map]
  have lo : ∀ (i : Nat) (x : Sv), (ρ ++ List.replicate (N.length - ρ.length) Sv.no)[i]? = some x → x = .no ∨ (ρ[i]? = some x ∧ (L2.start N vs)[i]? = (vs.map some)[i]?) := fun i x h => by
    by_cases hi : i < ρ.length
    · rw [List.getElem?_append_left hi] at h
      refine .inr ⟨h, ?_⟩
      unfold L2.start
      rw [List.getElem?_append_left (by rw [List.length_map]; omega)]
    · rw [List.getElem?_append_right (by omega), List.getElem?_replicate] at h
      split at h
      · cases h; exact .inl rfl
      · cases h
  exact s.forget (by unfold L2.start; rw [List.length_append, List.length_append, List.length_map, List.length_replicate, List.length_replicate, hl]) lo

section
variable {P : Program} {w : World} {K : PySem.W.Frag} {mg : Str → Option Value} {base : Heap}
/-- a body is done -/
theorem body_ok {k : Kx} {r : Bool} {n : Nat} {N : List Str} {mb : SS} {vs : List V} {H : Hp} {Q : VK} {E : XK} (h : SpOf k r n (runB r N.length mb) vs H Q E) :
    tS ⟨k, WX0 E⟩ r mb { nx := fun _ H' => Q .non H', rt := Q } (L2.start N vs) H := by
  obtain ⟨_, ρ, τ, A, F, Z, w, s, q⟩ := h
  refine ⟨_, τ, A, F, F, Z, w, s.start, ?_⟩
  unfold runB at q
  cases hm : mb (ρ ++ List.replicate (N.length - ρ.length) .no) τ with
  | nx ρ1 τ1 =>
    rw [hm] at q
    cases r with
    | true => exact q.elim
    | false =>
      have q : ∀ H' Z' v, Wd k A F τ1 H' Z' → Same Z Z' → Rep k Z' .non v → Q v H' := q
      exact fun σ H1 Z1 F1 w1 s1 e => q H1 Z1 _ (w1.sub s1.f0) e (rep_non.mpr rfl)
  | ret d τ1 =>
    rw [hm] at q
    cases r with
    | true =>
      have q : ∀ H' Z' a o, F a = none → a ∉ A → Wd k A (upd F a o) τ1 H' Z' → Same Z Z' → OwnO k Z' d o → Q (.ref a) H' := q
      intro H1 Z1 F1 a o w1 f1 e fa f0 ho
      refine q H1 Z1 a o f0 (fun ha => ?_) (w1.sub fun b u hb => ?_) e ho
      · have := (w1.out a ha).2
        rw [fa] at this
        cases this
      · by_cases hb' : b = a
        · subst hb'; rw [upd_same] at hb; rw [fa]; exact hb
        · rw [upd_ne hb'] at hb; exact f1 b u hb
    | false =>
      have q : ∀ H' Z' v, Wd k A F τ1 H' Z' → Same Z Z' → Rep k Z' d v → Q v H' := q
      exact fun H1 Z1 F1 v w1 f1 e rv => q H1 Z1 v (w1.sub f1) e rv
  | brk ρ1 τ1 => rw [hm] at q; exact q.elim
  | cnt ρ1 τ1 => rw [hm] at q; exact q.elim
  | bad => rw [hm] at q; exact q.elim
  | exc x ρ1 τ1 =>
    rw [hm] at q
    intro cls dx σ H1 Z1 F1 w1 s1 e rx
    obtain ⟨C, d, us, h1, h2, h3, h4, h5, h6, h7, h8⟩ := rx
    exact q cls dx H1 Z1 (w1.sub s1.f0) e ⟨C, d, us, h1, h2, h3, h4, h5, h6, none_of_same s1.f0 h7, h8⟩
/-- THE RULE for a def -/
theorem def_ok {x qual : Str} {st : Stmt} {f : Addr} {fd : FuncData} {N ps : List Str} {k : Nat} {r : Bool} {mb : SS} (F : Fun K x qual st f fd) (S : FnScope N ps (defScope st))
    (hb : ∀ (cdv : Value) (A : Around) (outer : List PySem.Env) (s : Shared) (H : Hp) (E : XK), Room k (A.deeper (envOfC qual (defScope st) s.heap.objs.size f cdv)) →
      EL (cxOf (L2.CX P w) P w K mg base N qual (defScope st) f cdv A outer s H E) (WX0 E) r (defBody st) mb) : FnOk P w K mg base (L2.CX P w) (k + 1) f fd ps (SpOf ⟨K, mg⟩ r ps.length (runB r N.length mb)) :=
  F.okX S (fun vs H Q E h => h.1) fun cdv A outer s H vs Q E hr h => ⟨_, hb cdv A outer s H E hr, body_ok h⟩
end

/-! ### arguments for a def -/
abbrev SR := Rho → Tau → Out (List Sv)
def ArgRel (k : Kx) (A : List Addr) (Z : Hp) : List Sv → List V → Prop
  | [], vs => vs = []
  | .fz d :: ss, vs => ∃ v r, vs = v :: r ∧ Rep k Z d v ∧ ArgRel k A Z ss r
  | .io j :: ss, vs => ∃ a r, vs = V.ref a :: r ∧ A[j]? = some a ∧ ArgRel k A Z ss r
  | _ :: _, _ => False
theorem ArgRel.mono {k : Kx} {A : List Addr} {Z Z' : Hp} (e : Same Z Z') : ∀ {ss : List Sv} {vs : List V}, ArgRel k A Z ss vs → ArgRel k A Z' ss vs
  | [], _, h => h
  | .fz d :: ss, _, ⟨v, r, h1, h2, h3⟩ => ⟨v, r, h1, h2.mono e, ArgRel.mono e h3⟩
  | .io j :: ss, _, ⟨a, r, h1, h2, h3⟩ => ⟨a, r, h1, h2, ArgRel.mono e h3⟩
  | .no :: _, _, h => h.elim
  | .own _ :: _, _, h => h.elim
theorem ArgRel.len {k : Kx} {A : List Addr} {Z : Hp} : ∀ {ss : List Sv} {vs : List V}, ArgRel k A Z ss vs → ss.length = vs.length
  | [], _, h => by have h : _ = [] := h; subst h; rfl
  | .fz d :: ss, _, ⟨v, r, h1, _, h3⟩ => by subst h1; rw [List.length_cons, List.length_cons, h3.len]
  | .io j :: ss, _, ⟨a, r, h1, _, h3⟩ => by subst h1; rw [List.length_cons, List.length_cons, h3.len]
  | .no :: _, _, h => h.elim
  | .own _ :: _, _, h => h.elim
theorem ArgRel.at {k : Kx} {A : List Addr} {Z : Hp} : ∀ {ss : List Sv} {vs : List V} {i : Nat} {x : Sv}, ArgRel k A Z ss vs → ss[i]? = some x → (∃ d v, x = .fz d ∧ vs[i]? = some v ∧ Rep k Z d v) ∨ ∃ j a, x = .io j ∧ A[j]? = some a ∧ vs[i]? = some (V.ref a)
  | [], _, _, _, _, e => by simp at e
  | .fz d :: ss, _, 0, x, ⟨v, r, h1, h2, h3⟩, e => by
    have e : Sv.fz d = x := by simpa using e
    subst h1
    exact .inl ⟨d, v, e.symm, rfl, h2⟩
  | .io j :: ss, _, 0, x, ⟨a, r, h1, h2, h3⟩, e => by
    have e : Sv.io j = x := by simpa using e
    subst h1
    exact .inr ⟨j, a, e.symm, h2, rfl⟩
  | .fz d :: ss, _, i + 1, x, ⟨v, r, h1, h2, h3⟩, e => by
    subst h1
    simpa using ArgRel.at (i := i) h3 (by simpa using e)
  | .io j :: ss, _, i + 1, x, ⟨a, r, h1, h2, h3⟩, e => by
    subst h1
    simpa using ArgRel.at (i := i) h3 (by simpa using e)
  | .no :: _, _, _, _, h, _ => h.elim
  | .own _ :: _, _, _, _, h, _ => h.elim
theorem ArgRel.sl {k : Kx} {A : List Addr} {Z F : Hp} {ss : List Sv} {vs : List V} (h : ArgRel k A Z ss vs) : Sl k A F F ss (vs.map some) Z := by
  have at' : ∀ {i : Nat} {v : V}, vs[i]? = some v → (vs.map some)[i]? = some (some v) := fun {i v} e => by rw [List.getElem?_map, e]; rfl
  refine ⟨by rw [List.length_map]; exact h.len, fun i d e => ?_, fun i d e => ?_, fun i j e => ?_, fun i j d e a h1 => ?_, Same.refl F⟩
  · rcases h.at e with ⟨d', v, h1, h2, h3⟩ | ⟨j, a, h1, _⟩
    · cases h1; exact ⟨v, at' h2, h3⟩
    · cases h1
  · rcases h.at e with ⟨d', v, h1, h2, h3⟩ | ⟨j, a, h1, _⟩ <;> cases h1
  · rcases h.at e with ⟨d', v, h1, h2, h3⟩ | ⟨j, a, h1, h2, h3⟩
    · cases h1
    · cases h1; exact ⟨a, h2, at' h3⟩
  · rcases h.at h1 with ⟨d', v, h2, _⟩ | ⟨j, a, h2, _⟩ <;> cases h2
def tR (c : Jx) (m : SR) : TA := fun σ H Q => ∃ ρ τ A F0 F Z, Wd c.k A F τ H Z ∧ Sl c.k A F0 F ρ σ Z ∧ After c A F0 F ρ σ Z (m ρ τ) fun ss _ H' Z' => ∀ vs, ArgRel c.k A Z' ss vs →
  -- the call needs to know where it stands
  Q vs H'
def rNil : SR := fun _ τ => .ok [] τ
def rCons (a : SE) (r : SR) : SR := fun ρ τ => (a ρ τ).bind fun x τ1 => (r ρ τ1).bind fun xs τ2 => .ok (.fz x :: xs) τ2
def rIo (i : Nat) (r : SR) : SR := fun ρ τ => match ρ[i]? with
  | some (.io j) => (r ρ τ).bind fun xs τ2 => .ok (.io j :: xs) τ2
  | _ => .bad
abbrev ER (X : Cx) (W : WX) (e : List Expr) (m : SR) : Prop := PA X e (tR (jx X W) m)
section
variable {X : Cx} {W : WX} {e : Expr} {es : List Expr} {ma : SE} {mr : SR} {pos : Pos}
theorem er_nil : ER X W [] rNil := pa_weak pa_nil fun σ H Q ⟨ρ, τ, A, F0, F, Z, w, s, q⟩ => After.ok q w [] rfl
theorem er_cons (ha : EV X W e ma) (hr : ER X W es mr) (hs : starEach (e :: es) X.env = (false, eval e X.env) :: starEach es X.env := by rfl) : ER X W (e :: es) (rCons ma mr) := pa_weak (pa_cons ha hr hs) fun σ H Q ⟨ρ, τ, A, F0, F, Z, w, s, q⟩ =>
  ⟨ρ, τ, A, F0, F, Z, w, s, After.next q fun d τ1 H1 Z1 w1 e1 q1 x rx => ⟨ρ, τ1, A, F0, F, Z1, w1, s.mono e1, After.next q1 fun ds τ2 H2 Z2 w2 e2 q2 ys ry =>
    After.ok q2 w2 _ ⟨x, ys, rfl, rx.mono e2, ry⟩⟩⟩
theorem er_io (i : Nat) {x : Str} (hr : ER X W es mr) (hN : X.N[i]? = some x := by rfl) (hv : Vis X.env.scope x := by first | exact Or.inl rfl | exact Or.inr (Or.inl rfl) | exact Or.inr (Or.inr rfl)) (hd : (x == ("__debug__" : Str)) = false := by decide)
    (hcd : (x == ("__classdict__" : Str)) = false := by decide) (hs : starEach (.Name x pos :: es) X.env = (false, eval (.Name x pos) X.env) :: starEach es X.env := by rfl) : ER X W (.Name x pos :: es) (rIo i mr) := pa_weak (pa_cons (pe_var hN hv hd hcd) hr hs) fun σ H Q ⟨ρ, τ, A, F0, F, Z, w, s, q⟩ => by
  unfold rIo at q
  split at q
  · rename_i j hj
    obtain ⟨a, h1, h2⟩ := s.io i j hj
    refine ⟨.ref a, h2, ρ, τ, A, F0, F, Z, w, s, After.next q fun ds τ2 H2 Z2 w2 e2 q2 ys ry => ?_⟩
    exact After.ok q2 w2 _ ⟨a, ys, rfl, h1, ry⟩
  · exact q.elim
end

/-! ### a call that lends nothing -/
/-- what a callee is told to keep -/
def hidF (H Z : Hp) : Hp := fun b => if Z b = none then (match H b with
  | some o => if isPl o = true then some o else none
  | none => none) else none
theorem hidF_iff {H Z : Hp} {b : Addr} {o : HO} : hidF H Z b = some o ↔ Z b = none ∧ H b = some o ∧ isPl o = true := by
  unfold hidF
  by_cases h : Z b = none
  · rw [if_pos h]
    cases hb : H b with
    | none => simp
    | some u =>
      dsimp only
      by_cases hu : isPl u = true
      · rw [if_pos hu]
        constructor
        · intro e; cases e; exact ⟨h, rfl, hu⟩
        · intro e; exact e.2.1
      · rw [if_neg hu]
        constructor
        · intro e; cases e
        · intro e; cases e.2.1; exact absurd e.2.2 hu
  · rw [if_neg h]
    constructor
    · intro e; cases e
    · intro e; exact absurd e.1 h
theorem Wd.pure0 {k : Kx} {A : List Addr} {F : Hp} {τ : Tau} {H Z : Hp} (w : Wd k A F τ H Z) : Wd k [] (hidF H Z) [] H Z := by
  refine ⟨w.zh, fun a o e => (hidF_iff.mp e).2.1, fun a => ?_, rfl, fun j a d e => ?_, fun a ha => ?_, List.nodup_nil, w.tabs, fun a o e => ?_⟩
  · by_cases h : Z a = none
    · exact .inr h
    · exact .inl (if_neg h)
  · cases e
  · cases ha
  · rcases e with e | e
    · exact w.pl a o (.inl e)
    · exact (hidF_iff.mp e).2.2
theorem Wd.after0 {k : Kx} {A : List Addr} {F : Hp} {τ : Tau} {H Z H' Z' F' : Hp} (w : Wd k A F τ H Z) (w' : Wd k [] F' [] H' Z') (hF : Same (hidF H Z) F') (e : Same Z Z') : Wd k A F τ H' Z' := by
  have fe : ∀ {b o}, Z b = none → H b = some o → isPl o = true → F' b = some o := fun {b o} hz hb ho => hF b o (hidF_iff.mpr ⟨hz, hb, ho⟩)
  refine ⟨w'.zh, fun a o h => ?_, fun a => ?_, w.len, fun j a d h1 h2 => ?_, fun a ha => ?_, w.nd, w'.tabs, fun a o h => ?_⟩
  · have za : Z a = none := (w.zf a).resolve_left (fun z => by rw [h] at z; cases z)
    exact w'.fh a o (fe za (w.fh a o h) (w.pl a o (.inr h)))
  · cases hf : F a with
    | none => exact .inl rfl
    | some o =>
      have za : Z a = none := (w.zf a).resolve_left (fun z => by rw [hf] at z; cases z)
      refine .inr ((w'.zf a).resolve_left fun z => ?_)
      rw [fe za (w.fh a o hf) (w.pl a o (.inr hf))] at z
      cases z
  · obtain ⟨o, h3, h4⟩ := w.io j a d h1 h2
    have za := (w.out a (List.mem_of_getElem? h1)).1
    exact ⟨o, w'.fh a o (fe za h3 h4.pl), h4.mono e⟩
  · have za := (w.out a ha).1
    obtain ⟨o, h3, ho⟩ := w.a_pl ha
    refine ⟨(w'.zf a).resolve_left fun z => ?_, (w.out a ha).2⟩
    rw [fe za h3 ho] at z
    cases z
  · rcases h with h | h
    · exact w'.pl a o (.inl h)
    · exact w.pl a o (.inr h)
theorem pure0_F {k : Kx} {A : List Addr} {F : Hp} {τ : Tau} {H Z : Hp} (w : Wd k A F τ H Z) : Same F (hidF H Z) := fun a o h => by
  have za : Z a = none := (w.zf a).resolve_left (fun z => by rw [h] at z; cases z)
  exact hidF_iff.mpr ⟨za, w.fh a o h, w.pl a o (.inr h)⟩
/-- the arguments lend nothing -/
def noIo : List Sv → Bool
  | [] => true
  | .fz _ :: r => noIo r
  | _ :: _ => false
theorem ArgRel.noA {k : Kx} {A : List Addr} {Z : Hp} : ∀ {ss : List Sv} {vs : List V}, noIo ss = true → ArgRel k A Z ss vs → ArgRel k [] Z ss vs
  | [], _, _, h => h
  | .fz d :: ss, _, n, ⟨v, r, h1, h2, h3⟩ => ⟨v, r, h1, h2, ArgRel.noA n h3⟩
  | .io j :: ss, _, n, _ => by cases n
  | .no :: _, _, _, h => h.elim
  | .own _ :: _, _, _, h => h.elim
/-- f(..), f a def that is lent nothing -/
def eCall (mf : MF) (a : SR) : SE := fun ρ τ => (a ρ τ).bind fun ss τ1 => if noIo ss = true then (match mf ss [] with
  | .ok d _ => .ok d τ1
  | .exc e _ => .exc e τ1
  | .bad => .bad) else .bad
/-- f(..), f a def that may change what it is lent -/
def eCallIo (mf : MF) (a : SR) : SE := fun ρ τ => (a ρ τ).bind fun ss τ1 => mf ss τ1

section
variable {X : Cx} {W : WX} {e : Expr} {es : List Expr} {mr : SR} {pos p : Pos} {x : Str} {f : Addr} {fd : FuncData} {ps : List Str} {k : Nat} {mf : MF}
theorem call_at {n : Nat} (hl : ∀ ρ τ ss τ1, mr ρ τ = .ok ss τ1 → ss.length = n) {σ : L2.St} {H : Hp} {Q : VK} {ρ : Rho} {τ : Tau} {A : List Addr} {F0 F Z : Hp} (w : Wd (jx X W).k A F τ H Z) (s : Sl (jx X W).k A F0 F ρ σ Z)
    (q : After (jx X W) A F0 F ρ σ Z (eCall mf mr ρ τ) fun d _ H' Z' => ∀ v, Rep (jx X W).k Z' d v → Q v H') : After (jx X W) A F0 F ρ σ Z (mr ρ τ) fun ss _ H' Z' => ∀ vs, ArgRel (jx X W).k A Z' ss vs → SpOf ⟨X.K, X.mg⟩ false n mf vs H' Q (WE W σ) := by
  have q0 := q
  unfold eCall at q
  cases hmr : mr ρ τ with
  | bad => rw [hmr] at q; exact q.elim
  | exc y τ1 => rw [hmr] at q; exact q
  | ok ss τ1 =>
    rw [hmr] at q
    intro H1 Z1 w1 e1 vs rv
    have lv := rv.len
    have q : After (jx X W) A F0 F ρ σ Z (if noIo ss = true then (match mf ss [] with | .ok d _ => .ok d τ1 | .exc e _ => .exc e τ1 | .bad => .bad) else .bad) fun d _ H' Z' => ∀ v, Rep (jx X W).k Z' d v → Q v H' := q
    cases hn : noIo ss with
    | false => rw [hn] at q; exact q.elim
    | true =>
      rw [hn] at q
      refine ⟨by rw [← lv]; exact hl _ _ _ _ hmr, ss, [], [], _, Z1, w1.pure0, (rv.noA hn).sl, ?_⟩
      cases hf : mf ss [] with
      | bad => rw [hf] at q; exact q
      | ok d τ2 =>
        rw [hf] at q
        intro H2 Z2 v w2 e2 rv2
        have : τ2 = [] := by
          have := w2.len
          cases τ2 with
          | nil => rfl
          | cons _ _ => cases this
        subst this
        exact q H2 Z2 (w1.after0 w2 (Same.refl _) e2) (e1.trans e2) v rv2
      | exc y τ2 =>
        rw [hf] at q
        intro cls dx H2 Z2 w2 e2 rx
        have : τ2 = [] := by
          have := w2.len
          cases τ2 with
          | nil => rfl
          | cons _ _ => cases this
        subst this
        have w3 := w1.after0 w2 (Same.refl _) e2
        obtain ⟨C, d, us, h1, h2, h3, h4, h5, h6, h7, h8⟩ := rx
        exact q cls dx H2 Z2 w3 (e1.trans e2) ⟨C, d, us, h1, h2, h3, h4, h5, h6, none_of_same (pure0_F w1) h7, h8⟩ (s.mono (e1.trans e2))
theorem call_ok {n : Nat} (hl : ∀ ρ τ ss τ1, mr ρ τ = .ok ss τ1 → ss.length = n) : ∀ σ H Q, tE (jx X W) (eCall mf mr) σ H Q → tCallS (SpOf ⟨X.K, X.mg⟩ false n mf) (WE W) (tR (jx X W) mr) σ H Q := fun σ H Q ⟨ρ, τ, A, F0, F, Z, w, s, q⟩ =>
  ⟨ρ, τ, A, F0, F, Z, w, s, call_at hl w s q⟩
theorem callF_at {n : Nat} (hl : ∀ ρ τ ss τ1, mr ρ τ = .ok ss τ1 → ss.length = n) {σ : L2.St} {H : Hp} {Q : VK} {ρ : Rho} {τ : Tau} {A : List Addr} {F0 F Z : Hp} (w : Wd (jx X W).k A F τ H Z) (s : Sl (jx X W).k A F0 F ρ σ Z)
    (q : AfterF (jx X W) A F0 F ρ σ Z (eCall mf mr ρ τ) Q) : After (jx X W) A F0 F ρ σ Z (mr ρ τ) fun ss _ H' Z' => ∀ vs, ArgRel (jx X W).k A Z' ss vs → SpOf ⟨X.K, X.mg⟩ true n mf vs H' Q (WE W σ) := by
  unfold eCall at q
  cases hmr : mr ρ τ with
  | bad => rw [hmr] at q; exact q.elim
  | exc y τ1 => rw [hmr] at q; exact q
  | ok ss τ1 =>
    rw [hmr] at q
    intro H1 Z1 w1 e1 vs rv
    have lv := rv.len
    have q : AfterF (jx X W) A F0 F ρ σ Z (if noIo ss = true then (match mf ss [] with | .ok d _ => .ok d τ1 | .exc e _ => .exc e τ1 | .bad => .bad) else .bad) Q := q
    cases hn : noIo ss with
    | false => rw [hn] at q; exact q.elim
    | true =>
      rw [hn] at q
      refine ⟨by rw [← lv]; exact hl _ _ _ _ hmr, ss, [], [], _, Z1, w1.pure0, (rv.noA hn).sl, ?_⟩
      cases hf : mf ss [] with
      | bad => rw [hf] at q; exact q
      | ok d τ2 =>
        rw [hf] at q
        intro H2 Z2 a o fa na w2 e2 ho
        have : τ2 = [] := by
          have := w2.len
          cases τ2 with
          | nil => rfl
          | cons _ _ => cases this
        subst this
        have w3 : Wd (jx X W).k A F τ1 H2 Z2 := w1.after0 w2 (same_new fa) e2
        have fa' : F a = none := none_of_same (pure0_F w1) fa
        have aA : a ∉ A := fun ha => by
          obtain ⟨u, hu, pu⟩ := w1.a_pl ha
          rw [hidF_iff.mpr ⟨(w1.out a ha).1, hu, pu⟩] at fa
          cases fa
        refine q H2 Z2 a o fa' aA ⟨w3.zh, fun b u hb => ?_, fun b => ?_, w3.len, w3.io, fun b hb => ?_, w3.nd, w3.tabs, fun b u hb => ?_⟩ (e1.trans e2) ho
        rotate_right
        · rcases hb with hb | hb
          · exact w3.pl b u (.inl hb)
          · by_cases h : b = a
            · subst h; exact w2.pl b u (.inr (by rw [upd_same] at hb ⊢; exact hb))
            · rw [upd_ne h] at hb; exact w3.pl b u (.inr hb)
        · by_cases h : b = a
          · subst h
            rw [upd_same] at hb
            exact w2.fh b u (by rw [upd_same]; exact hb)
          · rw [upd_ne h] at hb; exact w3.fh b u hb
        · by_cases h : b = a
          · subst h
            refine .inr ((w2.zf b).resolve_left fun z => ?_)
            rw [upd_same] at z
            cases z
          · rw [upd_ne h]; exact w3.zf b
        · refine ⟨(w3.out b hb).1, ?_⟩
          rw [upd_ne (fun z => aA (by rw [← z]; exact hb))]
          exact (w3.out b hb).2
      | exc y τ2 =>
        rw [hf] at q
        intro cls dx H2 Z2 w2 e2 rx
        have : τ2 = [] := by
          have := w2.len
          cases τ2 with
          | nil => rfl
          | cons _ _ => cases this
        subst this
        have w3 := w1.after0 w2 (Same.refl _) e2
        obtain ⟨C, d, us, h1, h2, h3, h4, h5, h6, h7, h8⟩ := rx
        exact q cls dx H2 Z2 w3 (e1.trans e2) ⟨C, d, us, h1, h2, h3, h4, h5, h6, none_of_same (pure0_F w1) h7, h8⟩ (s.mono (e1.trans e2))
theorem callF_ok {n : Nat} (hl : ∀ ρ τ ss τ1, mr ρ τ = .ok ss τ1 → ss.length = n) : ∀ σ H Q, tF (jx X W) (eCall mf mr) σ H Q → tCallS (SpOf ⟨X.K, X.mg⟩ true n mf) (WE W) (tR (jx X W) mr) σ H Q := fun σ H Q ⟨ρ, τ, A, F0, F, Z, w, s, q⟩ =>
  ⟨ρ, τ, A, F0, F, Z, w, s, callF_at hl w s q⟩
/-- a callee that is lent A is told to keep the rest -/
def hidA (H Z : Hp) (A : List Addr) : Hp := fun b => if b ∈ A then none else hidF H Z b
theorem Wd.lent {k : Kx} {A : List Addr} {F : Hp} {τ : Tau} {H Z : Hp} (w : Wd k A F τ H Z) : Wd k A (hidA H Z A) τ H Z := by
  have key : ∀ {a o}, hidA H Z A a = some o → hidF H Z a = some o := fun {a o} e => by
    unfold hidA at e
    split at e
    · cases e
    · exact e
  refine ⟨w.zh, fun a o e => (hidF_iff.mp (key e)).2.1, fun a => ?_, w.len, w.io, fun a ha => ⟨(w.out a ha).1, if_pos ha⟩, w.nd, w.tabs, fun a o e => ?_⟩
  · by_cases h : Z a = none
    · exact .inr h
    · refine .inl ?_
      unfold hidA
      split
      · rfl
      · exact if_neg h
  · rcases e with e | e
    · exact w.pl a o (.inl e)
    · exact (hidF_iff.mp (key e)).2.2
theorem lent_F {k : Kx} {A : List Addr} {F : Hp} {τ : Tau} {H Z : Hp} (w : Wd k A F τ H Z) : Same F (hidA H Z A) := fun a o h => by
  have na : a ∉ A := fun z => by
    rw [(w.out a z).2] at h
    cases h
  show (if a ∈ A then none else hidF H Z a) = some o
  rw [if_neg na]
  exact pure0_F w a o h
theorem callIo_ok {n : Nat} (hl : ∀ ρ τ ss τ1, mr ρ τ = .ok ss τ1 → ss.length = n) : ∀ σ H Q, tE (jx X W) (eCallIo mf mr) σ H Q → tCallS (SpOf ⟨X.K, X.mg⟩ false n mf) (WE W) (tR (jx X W) mr) σ H Q := fun σ H Q ⟨ρ, τ, A, F0, F, Z, w, s, q⟩ => by
  refine ⟨ρ, τ, A, F0, F, Z, w, s, ?_⟩
  unfold eCallIo at q
  cases hmr : mr ρ τ with
  | bad => rw [hmr] at q; exact q.elim
  | exc y τ1 => rw [hmr] at q; exact q
  | ok ss τ1 =>
    rw [hmr] at q
    intro H1 Z1 w1 e1 vs rv
    have lv := rv.len
    have q : After (jx X W) A F0 F ρ σ Z (mf ss τ1) fun d _ H' Z' => ∀ v, Rep (jx X W).k Z' d v → Q v H' := q
    refine ⟨by rw [← lv]; exact hl _ _ _ _ hmr, ss, τ1, A, _, Z1, w1.lent, rv.sl, ?_⟩
    cases hf : mf ss τ1 with
    | bad => rw [hf] at q; exact q
    | ok d τ2 =>
      rw [hf] at q
      exact fun H2 Z2 v w2 e2 rv2 => q H2 Z2 (w2.sub (lent_F w1)) (e1.trans e2) v rv2
    | exc y τ2 =>
      rw [hf] at q
      intro cls dx H2 Z2 w2 e2 rx
      obtain ⟨C, d, us, h1, h2, h3, h4, h5, h6, h7, h8⟩ := rx
      exact q cls dx H2 Z2 (w2.sub (lent_F w1)) (e1.trans e2) ⟨C, d, us, h1, h2, h3, h4, h5, h6, none_of_same (lent_F w1) h7, h8⟩ (s.mono (e1.trans e2))
theorem callIoF_ok {n : Nat} (hl : ∀ ρ τ ss τ1, mr ρ τ = .ok ss τ1 → ss.length = n) : ∀ σ H Q, tF (jx X W) (eCallIo mf mr) σ H Q → tCallS (SpOf ⟨X.K, X.mg⟩ true n mf) (WE W) (tR (jx X W) mr) σ H Q := fun σ H Q ⟨ρ, τ, A, F0, F, Z, w, s, q⟩ => by
  refine ⟨ρ, τ, A, F0, F, Z, w, s, ?_⟩
  unfold eCallIo at q
  cases hmr : mr ρ τ with
  | bad => rw [hmr] at q; exact q.elim
  | exc y τ1 => rw [hmr] at q; exact q
  | ok ss τ1 =>
    rw [hmr] at q
    intro H1 Z1 w1 e1 vs rv
    have lv := rv.len
    have q : AfterF (jx X W) A F0 F ρ σ Z (mf ss τ1) Q := q
    refine ⟨by rw [← lv]; exact hl _ _ _ _ hmr, ss, τ1, A, _, Z1, w1.lent, rv.sl, ?_⟩
    cases hf : mf ss τ1 with
    | bad => rw [hf] at q; exact q
    | ok d τ2 =>
      rw [hf] at q
      intro H2 Z2 a o fa na w2 e2 ho
      refine q H2 Z2 a o (none_of_same (lent_F w1) fa) na (w2.sub fun b u hb => ?_) (e1.trans e2) ho
      by_cases h : b = a
      · subst h; rw [upd_same] at hb ⊢; exact hb
      · rw [upd_ne h] at hb ⊢; exact lent_F w1 b u hb
    | exc y τ2 =>
      rw [hf] at q
      intro cls dx H2 Z2 w2 e2 rx
      obtain ⟨C, d, us, h1, h2, h3, h4, h5, h6, h7, h8⟩ := rx
      exact q cls dx H2 Z2 (w2.sub (lent_F w1)) (e1.trans e2) ⟨C, d, us, h1, h2, h3, h4, h5, h6, none_of_same (lent_F w1) h7, h8⟩ (s.mono (e1.trans e2))

/-- how many arguments -/
theorem len_rNil : ∀ ρ τ ss τ1, rNil ρ τ = .ok ss τ1 → ss.length = 0 := fun ρ τ ss τ1 h => by cases h; rfl
theorem len_rCons {a : SE} {r : SR} {n : Nat} (h : ∀ ρ τ ss τ1, r ρ τ = .ok ss τ1 → ss.length = n) : ∀ ρ τ ss τ1, rCons a r ρ τ = .ok ss τ1 → ss.length = n + 1 := fun ρ τ ss τ1 e => by
  obtain ⟨x, τ2, h1, e⟩ := bind_ok e
  obtain ⟨xs, τ3, h2, e⟩ := bind_ok e
  cases e
  rw [List.length_cons, h _ _ _ _ h2]
theorem len_rIo {i : Nat} {r : SR} {n : Nat} (h : ∀ ρ τ ss τ1, r ρ τ = .ok ss τ1 → ss.length = n) : ∀ ρ τ ss τ1, rIo i r ρ τ = .ok ss τ1 → ss.length = n + 1 := fun ρ τ ss τ1 e => by
  unfold rIo at e
  split at e
  · obtain ⟨xs, τ3, h2, e⟩ := bind_ok e
    cases e
    rw [List.length_cons, h _ _ _ _ h2]
  · cases e

theorem ev_call (G : FnOk X.prog X.w X.K X.mg X.base (L2.CX X.prog X.w) k f fd ps (SpOf ⟨X.K, X.mg⟩ false ps.length mf)) (hr : Room k X.A) (hm : X.mg x = some (.ref f)) (hk : PySem.W.keepIn X.K (.ref f) = true) (hb : Binds X.K fd ps []) (tk : Takes X W) (hl : ∀ ρ τ ss τ1, mr ρ τ = .ok ss τ1 → ss.length = ps.length)
    (ha : ER X W (e :: es) mr) (hg : Gl X x := by rfl) (hdb : (x == ("__debug__" : Str)) = false := by decide) (he : starEach (e :: es) X.env = (false, eval e X.env) :: starEach es X.env := by rfl) (hpl : (backTo pos (starEach es X.env)).any (·.1) = false := by rfl) :
    EV X W (.Call (.Name x p) (e :: es) [] pos) (eCall mf mr) := pe_weak (pe_callS G hr hg hm hk hb (fun σ => passAt tk σ) ha hdb he hpl) (call_ok hl)
theorem ef_call (G : FnOk X.prog X.w X.K X.mg X.base (L2.CX X.prog X.w) k f fd ps (SpOf ⟨X.K, X.mg⟩ true ps.length mf)) (hr : Room k X.A) (hm : X.mg x = some (.ref f)) (hk : PySem.W.keepIn X.K (.ref f) = true) (hb : Binds X.K fd ps []) (tk : Takes X W) (hl : ∀ ρ τ ss τ1, mr ρ τ = .ok ss τ1 → ss.length = ps.length)
    (ha : ER X W (e :: es) mr) (hg : Gl X x := by rfl) (hdb : (x == ("__debug__" : Str)) = false := by decide) (he : starEach (e :: es) X.env = (false, eval e X.env) :: starEach es X.env := by rfl) (hpl : (backTo pos (starEach es X.env)).any (·.1) = false := by rfl) :
    EF X W (.Call (.Name x p) (e :: es) [] pos) (eCall mf mr) := pe_weak (pe_callS G hr hg hm hk hb (fun σ => passAt tk σ) ha hdb he hpl) (callF_ok hl)
theorem ev_callIo (G : FnOk X.prog X.w X.K X.mg X.base (L2.CX X.prog X.w) k f fd ps (SpOf ⟨X.K, X.mg⟩ false ps.length mf)) (hr : Room k X.A) (hm : X.mg x = some (.ref f)) (hk : PySem.W.keepIn X.K (.ref f) = true) (hb : Binds X.K fd ps []) (tk : Takes X W) (hl : ∀ ρ τ ss τ1, mr ρ τ = .ok ss τ1 → ss.length = ps.length)
    (ha : ER X W (e :: es) mr) (hg : Gl X x := by rfl) (hdb : (x == ("__debug__" : Str)) = false := by decide) (he : starEach (e :: es) X.env = (false, eval e X.env) :: starEach es X.env := by rfl) (hpl : (backTo pos (starEach es X.env)).any (·.1) = false := by rfl) :
    EV X W (.Call (.Name x p) (e :: es) [] pos) (eCallIo mf mr) := pe_weak (pe_callS G hr hg hm hk hb (fun σ => passAt tk σ) ha hdb he hpl) (callIo_ok hl)
theorem ef_callIo (G : FnOk X.prog X.w X.K X.mg X.base (L2.CX X.prog X.w) k f fd ps (SpOf ⟨X.K, X.mg⟩ true ps.length mf)) (hr : Room k X.A) (hm : X.mg x = some (.ref f)) (hk : PySem.W.keepIn X.K (.ref f) = true) (hb : Binds X.K fd ps []) (tk : Takes X W) (hl : ∀ ρ τ ss τ1, mr ρ τ = .ok ss τ1 → ss.length = ps.length)
    (ha : ER X W (e :: es) mr) (hg : Gl X x := by rfl) (hdb : (x == ("__debug__" : Str)) = false := by decide) (he : starEach (e :: es) X.env = (false, eval e X.env) :: starEach es X.env := by rfl) (hpl : (backTo pos (starEach es X.env)).any (·.1) = false := by rfl) :
    EF X W (.Call (.Name x p) (e :: es) [] pos) (eCallIo mf mr) := pe_weak (pe_callS G hr hg hm hk hb (fun σ => passAt tk σ) ha hdb he hpl) (callIoF_ok hl)
end
end Hw
/-! Hw, part 7: own exceptions with attributes: their __init__, raise. -/
namespace Hw
open PySem PySem.Spec L2
variable [Tb]
open PyProof.Rows (envOfC)

/-- the promise of an exception's __init__: rest the arguments, fs what it stores -/
def SpInit (K : PySem.W.Frag) (C : Addr) (n : Nat) (fs : List V → List (Str × V)) : Sp := fun vs H Q _ => vs.length = n + 1 ∧ ∃ a rest, vs = V.ref a :: rest ∧ OexC K C ∧ H a = some (exo a C none) ∧
  ∀ d H', H d = none → d ≠ a → (∀ b, b ≠ a → b ≠ d → H' b = H b) → H' a = some (exo a C (some d)) → H' d = some (exd d (fs rest)) → Q .non H'
section
variable {P : Program} {w : World} {K : PySem.W.Frag} {mg : Str → Option Value} {base : Heap} {CX : CXT} {C f : Addr} {fd : FuncData} {st : Stmt} {qual tag : Str} {j : Nat} {p1 p2 p3 p4 q1 q2 q3 q4 r1 r2 r3 r4 : Pos}
theorem ok_init0 (F : Fun K "__init__" qual st f fd) (S : FnScope ["self"] ["self"] (defScope st)) (hb : defBody st = [.Assign [.Attribute (.Name "self" p1) "tag" p2] (.Constant (.str tag) j p3) p4])
    (hv : Vis (defScope st) "self") (n1 : PySem.W.findIn K (.ref C) "tag" = some none) : FnOk P w K mg base CX0 1 f fd ["self"] (SpInit K C 0 fun _ => [("tag", .str tag)]) := by
  refine F.ok S (fun vs H Q E h => h.1) (fun cdv A outer s H vs Q E hr h => ?_)
  obtain ⟨hl, a, rest, rfl, T, ha, q⟩ := h
  rw [hb]
  refine ⟨_, pss_one (ps_ost (pe_var (i := 0) rfl hv) pe_str), ?_⟩
  refine ⟨.ref a, rfl, a, C, rfl, T, n1, .inl ⟨ha, fun d hd hda => ?_⟩⟩
  refine q d _ hd hda (fun b h1 h2 => by rw [upd_ne h1, upd_ne h2]) upd_same (by rw [upd_ne hda, upd_same])
theorem ok_init1 {p : Str} (F : Fun K "__init__" qual st f fd) (S : FnScope ["self", p] ["self", p] (defScope st)) (hb : defBody st = [.Assign [.Attribute (.Name "self" p1) "tag" p2] (.Constant (.str tag) j p3) p4, .Assign [.Attribute (.Name "self" q1) p q2] (.Name p q3) q4])
    (hv : Vis (defScope st) "self") (hp : Vis (defScope st) p) (hd1 : (p == ("__debug__" : Str)) = false) (hd2 : (p == ("__classdict__" : Str)) = false) (n1 : PySem.W.findIn K (.ref C) "tag" = some none) (n2 : PySem.W.findIn K (.ref C) p = some none) :
    FnOk P w K mg base CX0 1 f fd ["self", p] (SpInit K C 1 fun r => [(p, r.getD 0 .non), ("tag", .str tag)]) := by
  refine F.ok S (fun vs H Q E h => h.1) (fun cdv A outer s H vs Q E hr h => ?_)
  obtain ⟨hl, a, rest, rfl, T, ha, q⟩ := h
  obtain ⟨v, rfl⟩ : ∃ v, rest = [v] := by
    match rest, hl with
    | [v], _ => exact ⟨v, rfl⟩
  rw [hb]
  refine ⟨_, pss_cons (ps_ost (pe_var (i := 0) rfl hv) pe_str) (pss_one (ps_ost (pe_var (i := 0) rfl hv) (pe_var (i := 1) rfl hp hd1 hd2))), ?_⟩
  refine ⟨.ref a, rfl, a, C, rfl, T, n1, .inl ⟨ha, fun d hd hda => ?_⟩⟩
  refine ⟨v, rfl, .ref a, rfl, a, C, rfl, T, n2, .inr ⟨d, [("tag", .str tag)], upd_same, by rw [upd_ne hda, upd_same], by simp, ?_⟩⟩
  refine q d _ hd hda (fun b h1 h2 => by rw [upd_ne h2, upd_ne h1, upd_ne h2]) (by rw [upd_ne (Ne.symm hda), upd_same]) upd_same
theorem ok_init2 {p p' : Str} (F : Fun K "__init__" qual st f fd) (S : FnScope ["self", p, p'] ["self", p, p'] (defScope st)) (hb : defBody st = [.Assign [.Attribute (.Name "self" p1) "tag" p2] (.Constant (.str tag) j p3) p4, .Assign [.Attribute (.Name "self" q1) p q2] (.Name p q3) q4, .Assign [.Attribute (.Name "self" r1) p' r2] (.Name p' r3) r4])
    (hv : Vis (defScope st) "self") (hp : Vis (defScope st) p) (hp' : Vis (defScope st) p') (hd1 : (p == ("__debug__" : Str)) = false) (hd2 : (p == ("__classdict__" : Str)) = false) (hd3 : (p' == ("__debug__" : Str)) = false) (hd4 : (p' == ("__classdict__" : Str)) = false)
    (n1 : PySem.W.findIn K (.ref C) "tag" = some none) (n2 : PySem.W.findIn K (.ref C) p = some none) (n3 : PySem.W.findIn K (.ref C) p' = some none) :
    FnOk P w K mg base CX0 1 f fd ["self", p, p'] (SpInit K C 2 fun r => [(p', r.getD 1 .non), (p, r.getD 0 .non), ("tag", .str tag)]) := by
  refine F.ok S (fun vs H Q E h => h.1) (fun cdv A outer s H vs Q E hr h => ?_)
  obtain ⟨hl, a, rest, rfl, T, ha, q⟩ := h
  obtain ⟨v, u, rfl⟩ : ∃ v u, rest = [v, u] := by
    match rest, hl with
    | [v, u], _ => exact ⟨v, u, rfl⟩
  rw [hb]
  refine ⟨_, pss_cons (ps_ost (pe_var (i := 0) rfl hv) pe_str) (pss_cons (ps_ost (pe_var (i := 0) rfl hv) (pe_var (i := 1) rfl hp hd1 hd2)) (pss_one (ps_ost (pe_var (i := 0) rfl hv) (pe_var (i := 2) rfl hp' hd3 hd4)))), ?_⟩
  refine ⟨.ref a, rfl, a, C, rfl, T, n1, .inl ⟨ha, fun d hd hda => ?_⟩⟩
  refine ⟨v, rfl, .ref a, rfl, a, C, rfl, T, n2, .inr ⟨d, [("tag", .str tag)], upd_same, by rw [upd_ne hda, upd_same], by simp, ?_⟩⟩
  refine ⟨u, rfl, .ref a, rfl, a, C, rfl, T, n3, .inr ⟨d, [(p, v), ("tag", .str tag)], by rw [upd_ne (Ne.symm hda), upd_same], upd_same, by simp, ?_⟩⟩
  refine q d _ hd hda (fun b h1 h2 => by rw [upd_ne h2, upd_ne h2, upd_ne h1, upd_ne h2]) (by rw [upd_ne (Ne.symm hda), upd_ne (Ne.symm hda), upd_same]) upd_same
end

/-! ### raise C(e, ..) -/
def sRaise (c : Str) (n : Nat) (fs : List Str) (vals : List D → List D) (m : SA) : SS := fun ρ τ => (m ρ τ).andS ρ fun ds τ1 => if ds.length = n then .exc ⟨c, fs, vals ds⟩ ρ τ1 else .bad
/-- what an __init__ stores, as values and as data -/
def StoreD (n : Nat) (fsV : List V → List (Str × V)) (fs : List Str) (vals : List D → List D) : Prop := ∀ (k : Kx) (Z : Hp) (ds : List D) (vs : List V), ds.length = n → Reps k Z ds vs → ∃ us, fsV vs = fs.zip us ∧ fs.length = us.length ∧ Reps k Z (vals ds) us
theorem store0 {tag : Str} : StoreD 0 (fun _ => [("tag", V.str tag)]) ["tag"] fun _ => [.str tag] := fun k Z ds vs hl h =>
  ⟨[.str tag], rfl, rfl, Reps.cons (rep_str.mpr rfl) Reps.nil⟩
theorem store1 {tag p : Str} : StoreD 1 (fun r => [(p, r.getD 0 .non), ("tag", V.str tag)]) [p, "tag"] fun ds => [ds.getD 0 .non, .str tag] := fun k Z ds vs hl h => by
  match ds, hl with
  | [d], _ =>
    obtain ⟨v, r, rfl, h1, h2⟩ := reps_cons.mp h
    rw [reps_nil] at h2
    subst h2
    exact ⟨[v, .str tag], rfl, rfl, Reps.cons h1 (Reps.cons (rep_str.mpr rfl) Reps.nil)⟩
theorem store2 {tag p p' : Str} : StoreD 2 (fun r => [(p', r.getD 1 .non), (p, r.getD 0 .non), ("tag", V.str tag)]) [p', p, "tag"] fun ds => [ds.getD 1 .non, ds.getD 0 .non, .str tag] := fun k Z ds vs hl h => by
  match ds, hl with
  | [d, e], _ =>
    obtain ⟨v, r, rfl, h1, h2⟩ := reps_cons.mp h
    obtain ⟨u, r', rfl, h3, h4⟩ := reps_cons.mp h2
    rw [reps_nil] at h4
    subst h4
    exact ⟨[u, v, .str tag], rfl, rfl, Reps.cons h3 (Reps.cons h1 (Reps.cons (rep_str.mpr rfl) Reps.nil))⟩
section
variable {X : Cx} {W : WX} {r : Bool} {e : Expr} {es : List Expr} {m : SA} {C fI : Addr} {fd : FuncData} {ps : List Str} {k n : Nat} {x : Str} {p pos pos' : Pos} {fsV : List V → List (Str × V)} {fs : List Str} {vals : List D → List D} {CX : CXT}
theorem raise_ok {A : List Addr} {F0 F H1 Z1 : Hp} {ρ : Rho} {σ : L2.St} {τ1 : Tau} {ds : List D} {vs : List V} {D : Ends} (T : OexC X.K C) (hm : X.mg x = some (.ref C)) (hs : StoreD n fsV fs vals) (hn : ds.length = n) (hn2 : n ≤ 1000)
    (w1 : Wd (jx X W).k A F τ1 H1 Z1) (s1 : Sl (jx X W).k A F0 F ρ σ Z1) (rv : Reps (jx X W).k Z1 ds vs) (q : AfterS (jx X W) r A F0 Z1 D (.exc ⟨x, fs, vals ds⟩ ρ τ1)) :
    vs.length ≤ 1000 ∧ ∀ a, H1 a = none → SpInit X.K C n fsV (V.ref a :: (vs ++ [])) (upd H1 a (exo a C none))
      (fun v H2 => v = .non ∧ ∃ (d : Addr) (fs : List (Str × V)), H2 a = some (exo a C (some d)) ∧ H2 d = some (exd d fs) ∧ H1 d = none ∧ W (.ref C) (some d) σ (upd (del H2 a) d (.xd fs))) (fun _ _ _ => False) := by
  have hlen : vs.length = n := rv.length.symm.trans hn
  refine ⟨by omega, fun a ha => ⟨by rw [List.length_cons, List.append_nil, hlen], a, vs ++ [], rfl, T, upd_same, fun d H2 hd hda hb h2a h2d => ⟨rfl, d, fsV (vs ++ []), h2a, h2d, ?_, ?_⟩⟩⟩
  · rw [upd_ne hda] at hd; exact hd
  · have hd1 : H1 d = none := by rw [upd_ne hda] at hd; exact hd
    obtain ⟨us, e1, e2, e3⟩ := hs _ Z1 ds vs hn rv
    have eH : upd (del H2 a) d (.xd (fsV (vs ++ []))) = upd H1 d (.xd (fs.zip us)) := by
      funext b
      by_cases h1 : b = d
      · subst h1; rw [upd_same, upd_same, List.append_nil, e1]
      · rw [upd_ne h1, upd_ne h1]
        by_cases h2 : b = a
        · subst h2; rw [del_same, ha]
        · rw [del_ne h2, hb b h2 h1, upd_ne h2]
    rw [eH]
    have w2 := w1.allocF (o := .xd (fs.zip us)) hd1 rfl
    have fd := none_of_same w1.fh hd1
    refine q _ _ σ _ Z1 F (w2.sub (same_new fd)) s1 (Same.refl Z1) ⟨C, d, us, rfl, hm, rfl, upd_same, e2, e3, fd, none_of_same w1.zh hd1⟩
theorem es_raise (T : OexC X.K C) (iC : PySem.W.findIn X.K (.ref C) "__init__" = some (some (.ref fI))) (tI : PySem.W.typeIn X.K (.ref fI) = some (.type "function")) (G : FnOk X.prog X.w X.K X.mg X.base CX0 k fI fd ps (SpInit X.K C n fsV)) (hr : Room (k + 1) X.A) (hb : Binds X.K fd ps [])
    (hm : X.mg x = some (.ref C)) (hs : StoreD n fsV fs vals) (tk : Takes X W) (ha : EAV X W (e :: es) m) (hn2 : n ≤ 1000 := by decide) (hg : Gl X x := by rfl) (hdb : (x == ("__debug__" : Str)) = false := by decide) (hc : X.calm = true := by rfl)
    (he : starEach (e :: es) X.env = (false, eval e X.env) :: starEach es X.env := by rfl) (hpl : (backTo pos (starEach es X.env)).any (·.1) = false := by rfl) :
    ES X W r (.Raise (some (.Call (.Name x p) (e :: es) [] pos)) none pos') (sRaise x n fs vals m) := ps_weak (ps_raise hc tk (pmk_oex T iC tI G hr hb .nil pass0 hg hm ha hdb he hpl)) fun D σ H ⟨ρ, τ, A, F0, F, Z, w, s, q⟩ => by
  refine ⟨ρ, τ, A, F0, F, Z, w, s, After.andS q fun ds τ1 H1 Z1 w1 e1 q1 vs rv => ?_⟩
  by_cases hn : ds.length = n
  · rw [if_pos hn] at q1
    exact raise_ok T hm hs hn hn2 w1 (s.mono e1) rv q1
  · rw [if_neg hn] at q1; exact q1.elim
end
end Hw
/-! Hw, part 8: the operators, subscripts, slices, built-ins, as functions of plain data. -/
namespace Hw
open PySem PySem.Spec L2
variable [Tb]

theorem OpR.or {X : Cx} {f : Value → Value → Sem Value} {r r' : R2} (h : OpR X f r) (h' : OpR X f r') : OpR X f (fun x y H Q => r x y H Q ∨ r' x y H Q) := by
  intro pins s σ H x y v u Q I rx ry q
  rcases q with q | q
  · exact h pins s σ H x y v u Q I rx ry q
  · exact h' pins s σ H x y v u Q I rx ry q
theorem CallR.or {X : Cx} {f : Value} {r r' : RC} (h : CallR X f r) (h' : CallR X f r') : CallR X f (fun x H Q => r x H Q ∨ r' x H Q) := by
  intro pins s σ H x u Q I rx q
  rcases q with q | q
  · exact h pins s σ H x u Q I rx q
  · exact h' pins s σ H x u Q I rx q
theorem NewQ.int {k : Kx} {Z H : Hp} {i : Int} {Q : VK} (h : NewQ k Z H (.int i) Q) : Q (.int i) H := h.1 _ (rep_int.mpr rfl)
theorem NewQ.bl {k : Kx} {Z H : Hp} {i : Bool} {Q : VK} (h : NewQ k Z H (.bl i) Q) : Q (.bl i) H := h.1 _ (rep_bl.mpr rfl)
theorem NewQ.str {k : Kx} {Z H : Hp} {i : Str} {Q : VK} (h : NewQ k Z H (.str i) Q) : Q (.str i) H := h.1 _ (rep_str.mpr rfl)
theorem NewQ.non {k : Kx} {Z H : Hp} {Q : VK} (h : NewQ k Z H .non Q) : Q .non H := h.1 _ (rep_non.mpr rfl)
theorem NewQ.tup {k : Kx} {Z H : Hp} {ds : List D} {vs : List V} {Q : VK} (h : NewQ k Z H (.tup ds) Q) (r : Reps k Z ds vs) {p : Addr} (hp : H p = none) (e : Same Z H) : Q (.ref p) (upd H p (.tup vs)) :=
  h.2 p _ rfl hp (none_of_same e hp) (rep_tup.mpr ⟨p, vs, rfl, upd_same, r.mono (same_new (none_of_same e hp))⟩)
theorem NewQ.lst {k : Kx} {Z H : Hp} {ds : List D} {vs : List V} {Q : VK} (h : NewQ k Z H (.lst ds) Q) (r : Reps k Z ds vs) {p : Addr} (hp : H p = none) (e : Same Z H) : Q (.ref p) (upd H p (.lst vs)) :=
  h.2 p _ rfl hp (none_of_same e hp) (rep_lst.mpr ⟨p, vs, rfl, upd_same, r.mono (same_new (none_of_same e hp))⟩)

/-! ### ints -/
def dInt (f : Int → Int → Option Int) : D → D → Option D
  | .int i, .int j => (f i j).map .int
  | _, _ => none
theorem opd_rI {k : Kx} {C : Int → Int → Prop} {g : Int → Int → Int} {f : Int → Int → Option Int} (h : ∀ i j z, f i j = some z → C i j ∧ g i j = z) : OpD k (rI C fun i j => .int (g i j)) (dInt f) := fun {F Z H x y d e z Q} eZ eF hx hy he q => by
  unfold dInt at he
  split at he
  · rename_i i j
    obtain ⟨w, hw, hz⟩ := Option.map_eq_some_iff.mp he
    subst hz
    obtain ⟨hC, rfl⟩ := h i j w hw
    exact ⟨i, j, hx.int, hy.int, hC, q.int⟩
  · cases he
def dSub : D → D → Option D := dInt fun i j => some (i - j)
def dFdiv : D → D → Option D := dInt fun i j => if 0 < j ∧ j.natAbs.log2 < 9000 then some (i / j) else none
def dMod : D → D → Option D := dInt fun i j => if 0 < j then some (i % j) else none
def dPow : D → D → Option D := dInt fun i j => if 0 ≤ j ∧ j ≤ 1000000 ∧ i.natAbs < 2 ^ 64 then some (i ^ j.toNat) else none
section
variable {X : Cx} {k : Kx}
theorem opd_sub : OpD k (rI0 fun i j => .int (i - j)) dSub := fun {F Z H x y d e z Q} eZ eF hx hy he q => by
  unfold dSub dInt at he
  split at he
  · rename_i i j
    cases he
    exact ⟨i, j, hx.int, hy.int, q.int⟩
  · cases he
theorem opd_fdiv : OpD k (rI CDivW fun i j => .int (i / j)) dFdiv := opd_rI (g := fun i j => i / j) fun i j z h => by
  split at h
  · rename_i hc
    cases h
    exact ⟨hc, rfl⟩
  · cases h
theorem opd_mod : OpD k (rI (fun _ j => j ≠ 0) fun i j => .int (i.fmod j)) dMod := opd_rI (g := fun i j => i.fmod j) fun i j z h => by
  split at h
  · rename_i hc
    cases h
    exact ⟨by omega, Int.fmod_eq_emod_of_nonneg _ (by omega)⟩
  · cases h
theorem opd_pow : OpD k (rI CPow fun i j => .int (i ^ j.toNat)) dPow := opd_rI (g := fun i j => i ^ j.toNat) fun i j z h => by
  split at h
  · rename_i hc
    cases h
    exact ⟨hc, rfl⟩
  · cases h
/-- + -/
def dAdd : D → D → Option D
  | .int i, .int j => some (.int (i + j))
  | .str x, .str y => if x.length + y.length ≤ sizeLine then some (.str (x ++ y)) else none
  | .lst a, .lst b => if a.length + b.length ≤ sizeLine then some (.lst (a ++ b)) else none
  | .tup a, .tup b => if a.length + b.length ≤ sizeLine then some (.tup (a ++ b)) else none
  | _, _ => none
def rAddA (K : PySem.W.Frag) : R2 := fun x y H Q => (rI0 fun i j => .int (i + j)) x y H Q ∨ (∃ i j, x = .str i ∧ y = .str j ∧ i.length + j.length ≤ sizeLine ∧ Q (.str (i ++ j)) H) ∨ rCat x y H Q ∨ rCatA K x y H Q
theorem op_addA : OpR X (binaryOp .Add) (rAddA X.K) := OpR.or op_add (OpR.or op_add_str (OpR.or op_cat op_catA))
theorem Reps.nil_of {k : Kx} {Z : Hp} {ds : List D} {vs : List V} (h : Reps k Z ds vs) (e : vs = []) : ds = [] := by
  subst e
  have := h.length
  exact List.length_eq_zero_iff.mp this
theorem opd_add : OpD k (rAddA k.K) dAdd := fun {F Z H x y d e z Q} eZ eF hx hy he q => by
  unfold dAdd at he
  split at he
  · rename_i i j
    cases he
    exact .inl ⟨i, j, hx.int, hy.int, q.int⟩
  · rename_i i j
    split at he
    · rename_i hl
      cases he
      exact .inr (.inl ⟨i, j, hx.str, hy.str, hl, q.str⟩)
    · cases he
  · rename_i a b
    split at he
    · rename_i hl
      cases he
      obtain ⟨p, vs, h1, h2, h3⟩ := hx.lst eZ eF
      obtain ⟨p', vs', h1', h2', h3'⟩ := hy.lst eZ eF
      exact .inr (.inr (.inl ⟨p, p', vs, vs', h1, h1', h2, h2', by rw [← h3.length, ← h3'.length]; exact hl, fun n hn => q.lst (h3.append h3') hn eZ⟩))
    · cases he
  · rename_i a b
    split at he
    · rename_i hl
      cases he
      obtain ⟨p, vs, h1, h2, h3⟩ := hx.tup eZ
      obtain ⟨p', vs', h1', h2', h3'⟩ := hy.tup eZ
      refine .inr (.inr (.inr ⟨p, p', vs, vs', h1, h1', SqT.of h2, SqT.of h2', by rw [← h3.length, ← h3'.length]; exact hl, ?_⟩))
      have hv : ∀ v, x = v → Rep k Z (.tup a) v := fun v e => by
        rcases hx with r | ⟨_, _, _, _, r⟩
        · rw [← e]; exact r
        · exact r.elim
      have hv' : ∀ v, y = v → Rep k Z (.tup b) v := fun v e => by
        rcases hy with r | ⟨_, _, _, _, r⟩
        · rw [← e]; exact r
        · exact r.elim
      first
        | refine ⟨fun z1 => ?_, fun z1 => ⟨fun z2 => ?_, fun z2 => ?_⟩⟩
        | refine ⟨fun z1 => ?_, fun z1 z2 => ?_, fun z1 z2 n hn => ?_⟩
      · have ea := h3.nil_of z1
        subst ea
        exact q.1 _ (hv' _ h1')
      · have eb := h3'.nil_of z2
        subst eb
        rw [List.append_nil] at q
        exact q.1 _ (hv _ h1)
      · exact q.tup (h3.append h3') hn eZ
    · cases he
  · cases he
end
end Hw
/-! Hw, part 9: more operators and built-ins. -/
namespace Hw
open PySem PySem.Spec L2
variable [Tb]
section
variable {X : Cx} {k : Kx}
/-! ### times -/
def dMul : D → D → Option D
  | .int i, .int j => if (-(2 ^ 64) < i ∧ i < 2 ^ 64) ∨ (-(2 ^ 64) < j ∧ j < 2 ^ 64) then some (.int (i * j)) else none
  | .lst a, .int j => if -(2 ^ 63) ≤ j ∧ j < 2 ^ 63 ∧ a.length * j.toNat ≤ sizeLine then some (.lst (List.replicate j.toNat a).flatten) else none
  | _, _ => none
def rMulA : R2 := fun x y H Q => (rI CMul fun i j => .int (i * j)) x y H Q ∨ rRep x y H Q
theorem op_mulA : OpR X (binaryOp .Mult) rMulA := OpR.or op_mul op_rep
theorem reps_rep {Z : Hp} {ds : List D} {vs : List V} (h : Reps k Z ds vs) : ∀ n : Nat, Reps k Z (List.replicate n ds).flatten (List.replicate n vs).flatten
  | 0 => Reps.nil
  | n + 1 => by
    rw [List.replicate_succ, List.replicate_succ, List.flatten_cons, List.flatten_cons]
    exact h.append (reps_rep h n)
theorem opd_mul : OpD k rMulA dMul := fun {F Z H x y d e z Q} eZ eF hx hy he q => by
  unfold dMul at he
  split at he
  · rename_i i j
    split at he
    · rename_i hc
      cases he
      exact .inl ⟨i, j, hx.int, hy.int, hc, q.int⟩
    · cases he
  · rename_i a j
    split at he
    · rename_i hc
      cases he
      obtain ⟨p, vs, h1, h2, h3⟩ := hx.lst eZ eF
      exact .inr ⟨p, j, vs, h1, hy.int, h2, hc.1, hc.2.1, by rw [← h3.length]; exact hc.2.2, fun n hn => q.lst (reps_rep h3 _) hn eZ⟩
    · cases he
  · cases he
def dNeg : D → Option D
  | .int i => some (.int (-i))
  | _ => none
theorem und_neg : UnD k (rU fun i => .int (-i)) dNeg := fun {F Z H x d z Q} eZ eF hx he q => by
  unfold dNeg at he
  split at he
  · rename_i i
    cases he
    exact ⟨i, hx.int, q.int⟩
  · cases he
/-! ### comparisons of ints -/
def dCmp (p : Int → Int → Bool) : D → D → Option D
  | .int i, .int j => some (.bl (p i j))
  | _, _ => none
theorem opd_cmp {p : Int → Int → Bool} : OpD k (rI0 fun i j => .bl (p i j)) (dCmp p) := fun {F Z H x y d e z Q} eZ eF hx hy he q => by
  unfold dCmp at he
  split at he
  · rename_i i j
    cases he
    exact ⟨i, j, hx.int, hy.int, q.bl⟩
  · cases he
abbrev dLt : D → D → Option D := dCmp fun i j => decide (i < j)
abbrev dLe : D → D → Option D := dCmp fun i j => decide (i ≤ j)
abbrev dGt : D → D → Option D := dCmp fun i j => decide (j < i)
abbrev dGe : D → D → Option D := dCmp fun i j => decide (j ≤ i)
theorem op_gtV : OpR X (compareOp .Gt) (rI0 fun i j => .bl (decide (j < i))) := op_gt
theorem op_geV : OpR X (compareOp .GtE) (rI0 fun i j => .bl (decide (j ≤ i))) := op_ge
/-! ### is None -/
def dIsN : D → D → Option D
  | .non, .non => some (.bl true)
  | _, .non => some (.bl false)
  | _, _ => none
def dNotN : D → D → Option D
  | .non, .non => some (.bl false)
  | _, .non => some (.bl true)
  | _, _ => none
theorem repB_non_iff {F Z : Hp} {d : D} {x : V} (h : RepB k F Z d x) (hd : d ≠ .non) : x ≠ .non := fun e => by
  subst e
  rcases h with h | ⟨a, o, h1, _⟩
  · cases d with
    | non => exact hd rfl
    | bl _ => cases rep_bl.mp h
    | int _ => cases rep_int.mp h
    | str _ => cases rep_str.mp h
    | lst _ => obtain ⟨_, _, e, _⟩ := rep_lst.mp h; cases e
    | tup _ => obtain ⟨_, _, e, _⟩ := rep_tup.mp h; cases e
    | dct _ _ _ => obtain ⟨_, _, _, e, _⟩ := rep_dct.mp h; cases e
    | ins _ _ _ => obtain ⟨_, _, _, _, e, _⟩ := rep_ins.mp h; cases e
    | scr _ => obtain ⟨_, e, _⟩ := rep_scr.mp h; cases e
    | ctup _ => obtain ⟨_, e, _⟩ := rep_ctup.mp h; cases e
  · cases h1
theorem opd_isN : OpD k (fun x y H Q => y = .non ∧ Q (.bl (decide (x = .non))) H) dIsN := fun {F Z H x y d e z Q} eZ eF hx hy he q => by
  unfold dIsN at he
  split at he
  · cases he
    refine ⟨hy.non, ?_⟩
    rw [hx.non]
    exact q.bl
  · rename_i hne
    cases he
    refine ⟨hy.non, ?_⟩
    rw [decide_eq_false (repB_non_iff hx fun z => hne z)]
    exact q.bl
  · cases he
theorem opd_notN : OpD k (fun x y H Q => y = .non ∧ Q (.bl (!decide (x = .non))) H) dNotN := fun {F Z H x y d e z Q} eZ eF hx hy he q => by
  unfold dNotN at he
  split at he
  · cases he
    refine ⟨hy.non, ?_⟩
    rw [hx.non]
    exact q.bl
  · rename_i hne
    cases he
    refine ⟨hy.non, ?_⟩
    rw [decide_eq_false (repB_non_iff hx fun z => hne z)]
    exact q.bl
  · cases he
/-! ### == of data -/
mutual
def isPd : D → Bool
  | .non => true | .bl _ => true | .int _ => true | .str _ => true
  | .lst ds => isPds ds | .tup ds => isPds ds
  | _ => false
def isPds : List D → Bool
  | [] => true
  | d :: ds => isPd d && isPds ds
end
mutual
def pd : D → PyData
  | .non => .none | .bl b => .bool b | .int i => .int i | .str x => .str x
  | .lst ds => .list (pds ds) | .tup ds => .tuple (pds ds)
  | _ => .none
def pds : List D → List PyData
  | [] => []
  | d :: ds => pd d :: pds ds
end
mutual
theorem dp_of {Z H : Hp} (e : Same Z H) : ∀ (d : D) (v : V), isPd d = true → Rep k Z d v → Dp k.K H v (pd d)
  | .non, v, _, h => by rw [rep_non.mp h]; unfold pd; exact .non
  | .bl b, v, _, h => by rw [rep_bl.mp h]; unfold pd; exact .bl b
  | .int i, v, _, h => by rw [rep_int.mp h]; unfold pd; exact .int i
  | .str x, v, _, h => by rw [rep_str.mp h]; unfold pd; exact .str x
  | .lst ds, v, p, h => by
    obtain ⟨a, vs, rfl, h2, h3⟩ := rep_lst.mp h
    unfold pd
    exact .lst (SqL.of (e _ _ h2)) (dps_of e ds vs (by unfold isPd at p; exact p) h3)
  | .tup ds, v, p, h => by
    obtain ⟨a, vs, rfl, h2, h3⟩ := rep_tup.mp h
    unfold pd
    exact .tup (SqT.of (e _ _ h2)) (dps_of e ds vs (by unfold isPd at p; exact p) h3)
  | .dct _ _ _, _, p, _ => by unfold isPd at p; cases p
  | .ins _ _ _, _, p, _ => by unfold isPd at p; cases p
  | .scr _, _, p, _ => by unfold isPd at p; cases p
  | .ctup _, _, p, _ => by unfold isPd at p; cases p
theorem dps_of {Z H : Hp} (e : Same Z H) : ∀ (ds : List D) (vs : List V), isPds ds = true → Reps k Z ds vs → DpAll k.K H vs (pds ds)
  | [], vs, _, h => by rw [reps_nil.mp h]; unfold pds; exact .nil
  | d :: ds, vs, p, h => by
    obtain ⟨v, r, rfl, h1, h2⟩ := reps_cons.mp h
    unfold isPds at p
    rw [Bool.and_eq_true] at p
    unfold pds
    exact .cons (dp_of e d v p.1 h1) (dps_of e ds r p.2 h2)
end
theorem dpB_of {F Z H : Hp} (eZ : Same Z H) (eF : Same F H) {d : D} {v : V} (p : isPd d = true) (h : RepB k F Z d v) : Dp k.K H v (pd d) := by
  rcases h with h | ⟨a, o, h1, h2, h3⟩
  · exact dp_of eZ d v p h
  · cases d with
    | lst ds =>
      obtain ⟨vs, rfl, h4⟩ := h3
      subst h1
      unfold pd
      unfold isPd at p
      exact .lst (SqL.of (eF _ _ h2)) (dps_of eZ ds vs p h4)
    | non => exact h3.elim
    | bl _ => exact h3.elim
    | int _ => exact h3.elim
    | str _ => exact h3.elim
    | tup _ => exact h3.elim
    | dct _ _ _ => unfold isPd at p; cases p
    | ins _ _ _ => unfold isPd at p; cases p
    | scr _ => exact h3.elim
    | ctup _ => exact h3.elim
def okPd (d : D) : Bool := isPd d && SeqAt.shaped (pd d)
def dEq (d e : D) : Option D := if okPd d && okPd e then some (.bl (PyData.eqv (pd d) (pd e))) else none
def dNe (d e : D) : Option D := if okPd d && okPd e then some (.bl (!PyData.eqv (pd d) (pd e))) else none
theorem okPd_two {d e : D} (h : (okPd d && okPd e) = true) : isPd d = true ∧ SeqAt.shaped (pd d) = true ∧ isPd e = true ∧ SeqAt.shaped (pd e) = true := by
  unfold okPd at h
  simp only [Bool.and_eq_true] at h
  exact ⟨h.1.1, h.1.2, h.2.1, h.2.2⟩
theorem opd_eq : OpD k (rEqD k.K) dEq := fun {F Z H x y d e z Q} eZ eF hx hy he q => by
  unfold dEq at he
  split at he
  · rename_i hc
    cases he
    obtain ⟨h1, h2, h3, h4⟩ := okPd_two hc
    exact ⟨pd d, pd e, dpB_of eZ eF h1 hx, dpB_of eZ eF h3 hy, h2, h4, q.bl⟩
  · cases he
theorem opd_ne : OpD k (rNeD k.K) dNe := fun {F Z H x y d e z Q} eZ eF hx hy he q => by
  unfold dNe at he
  split at he
  · rename_i hc
    cases he
    obtain ⟨h1, h2, h3, h4⟩ := okPd_two hc
    exact ⟨pd d, pd e, dpB_of eZ eF h1 hx, dpB_of eZ eF h3 hy, h2, h4, q.bl⟩
  · cases he
/-! ### in a list of data; a flat thing in a tuple; a sign in a text -/
def fv : D → V
  | .bl b => .bl b | .int i => .int i | .str x => .str x
  | _ => .non
def isFl : D → Bool
  | .non => true | .bl _ => true | .int _ => true | .str _ => true
  | _ => false
theorem fv_of {F Z : Hp} {d : D} {v : V} (p : isFl d = true) (h : RepB k F Z d v) : v = fv d ∧ flatV (fv d) = true := by
  cases d with
  | non => exact ⟨h.non, rfl⟩
  | bl _ => exact ⟨h.bl, rfl⟩
  | int _ => exact ⟨h.int, rfl⟩
  | str _ => exact ⟨h.str, rfl⟩
  | lst _ => cases p
  | tup _ => cases p
  | dct _ _ _ => cases p
  | ins _ _ _ => cases p
  | scr _ => cases p
  | ctup _ => cases p
theorem fvs_of {Z : Hp} : ∀ {ds : List D} {vs : List V}, ds.all isFl = true → Reps k Z ds vs → vs = ds.map fv ∧ (ds.map fv).all flatV = true
  | [], vs, _, h => by rw [reps_nil.mp h]; exact ⟨rfl, rfl⟩
  | d :: ds, vs, p, h => by
    obtain ⟨v, r, rfl, h1, h2⟩ := reps_cons.mp h
    rw [List.all_cons, Bool.and_eq_true] at p
    obtain ⟨e1, e2⟩ := fv_of (F := nopH) p.1 (.inl h1)
    obtain ⟨e3, e4⟩ := fvs_of p.2 h2
    refine ⟨by rw [e1, e3]; rfl, ?_⟩
    rw [List.map_cons, List.all_cons, e2, e4]
    rfl
def dInB (d s : D) : Option Bool := match s with
  | .lst ds => if okPd d && okPd (.lst ds) then some (ds.any fun z => PyData.eqv (pd z) (pd d)) else none
  | .tup ds => if isFl d && ds.all isFl then some (inV (fv d) (ds.map fv)) else none
  | .ctup vs => if isFl d && vs.all flatV then some (inV (fv d) vs) else none
  | .str z => match d with
    | .str x => match x.cps.toList with
      | [c] => some (decide (c ∈ z.cps.toList))
      | _ => none
    | _ => none
  | _ => none
def dIn (d s : D) : Option D := (dInB d s).map .bl
def dNotIn (d s : D) : Option D := (dInB d s).map fun b => .bl (!b)
def rInA (K : PySem.W.Frag) : R2 := fun x y H Q => rInD K x y H Q ∨ rIn K false x y H Q ∨ ∃ (c : Nat) (z : Str), x = .str ⟨#[c]⟩ ∧ y = .str z ∧ Q (.bl (decide (c ∈ z.cps.toList))) H
def rNotInA (K : PySem.W.Frag) : R2 := fun x y H Q => rNotInD K x y H Q ∨ rIn K true x y H Q ∨ ∃ (c : Nat) (z : Str), x = .str ⟨#[c]⟩ ∧ y = .str z ∧ Q (.bl (!decide (c ∈ z.cps.toList))) H
theorem op_inA (hu : X.A.units + 65 < cLine) : OpR X (compareOp .In) (rInA X.K) := OpR.or (op_inD hu) (OpR.or op_in_seq op_in_sign)
theorem op_notInA (hu : X.A.units + 65 < cLine) : OpR X (compareOp .NotIn) (rNotInA X.K) := OpR.or (op_notInD hu) (OpR.or op_notIn_seq op_notIn_sign)
theorem pds_any {d : D} : ∀ ds : List D, ((pds ds).any fun z => PyData.eqv z (pd d)) = ds.any fun z => PyData.eqv (pd z) (pd d)
  | [] => rfl
  | e :: ds => by
    unfold pds
    rw [List.any_cons, List.any_cons, pds_any ds]
theorem str_one {x : Str} {c : Nat} (h : x.cps.toList = [c]) : x = ⟨#[c]⟩ := by
  cases x with
  | mk a =>
    have : a = #[c] := by
      have := congrArg List.toArray h
      simpa using this
    rw [this]
theorem in_ok {F Z H : Hp} {x y : V} {d e : D} {b : Bool} {R : Bool → Prop} (eZ : Same Z H) (eF : Same F H) (hx : RepB k F Z d x) (hy : RepB k F Z e y) (he : dInB d e = some b) (q : R b) :
    (∃ d' ds, Dp k.K H x d' ∧ Dp k.K H y (.list ds) ∧ SeqAt.shaped d' = true ∧ SeqAt.shaped (.list ds) = true ∧ R (ds.any fun z => PyData.eqv z d')) ∨ (∃ p xs, y = .ref p ∧ (SqL k.K H p xs ∨ SqT k.K H p xs) ∧ flatV x = true ∧ xs.all flatV = true ∧ R (inV x xs)) ∨
      ∃ (c : Nat) (z : Str), x = .str ⟨#[c]⟩ ∧ y = .str z ∧ R (decide (c ∈ z.cps.toList)) := by
  unfold dInB at he
  split at he
  · rename_i ds
    split at he
    · rename_i hc
      cases he
      obtain ⟨h1, h2, h3, h4⟩ := okPd_two hc
      refine .inl ⟨pd d, pds ds, dpB_of eZ eF h1 hx, ?_, h2, ?_, by rw [pds_any]; exact q⟩
      · have := dpB_of eZ eF h3 hy
        unfold pd at this
        exact this
      · unfold pd at h4
        exact h4
    · cases he
  · rename_i ds
    split at he
    · rename_i hc
      cases he
      rw [Bool.and_eq_true] at hc
      obtain ⟨p, vs, h1, h2, h3⟩ := hy.tup eZ
      obtain ⟨e1, e2⟩ := fv_of hc.1 hx
      obtain ⟨e3, e4⟩ := fvs_of hc.2 h3
      exact .inr (.inl ⟨p, vs, h1, .inr (SqT.of h2), by rw [e1]; exact e2, by rw [e3]; exact e4, by rw [e1, e3]; exact q⟩)
    · cases he
  · rename_i vs
    split at he
    · rename_i hc
      cases he
      rw [Bool.and_eq_true] at hc
      obtain ⟨p, h1, h2⟩ := hy.ctup eZ
      obtain ⟨e1, e2⟩ := fv_of hc.1 hx
      exact .inr (.inl ⟨p, vs, h1, .inr h2, by rw [e1]; exact e2, hc.2, by rw [e1]; exact q⟩)
    · cases he
  · rename_i z
    split at he
    · rename_i w
      split at he
      · rename_i c hc
        cases he
        exact .inr (.inr ⟨c, z, by rw [hx.str, str_one hc], hy.str, q⟩)
      · cases he
    · cases he
  · cases he
theorem opd_in : OpD k (rInA k.K) dIn := fun {F Z H x y d e z Q} eZ eF hx hy he q => by
  obtain ⟨b, hb, rfl⟩ := Option.map_eq_some_iff.mp he
  rcases in_ok (R := fun b => Q (.bl b) H) eZ eF hx hy hb q.bl with h | ⟨p, xs, h1, h2, h3, h4, h5⟩ | h
  · exact .inl h
  · exact .inr (.inl ⟨p, xs, h1, h2, h3, h4, h5⟩)
  · exact .inr (.inr h)
theorem opd_notIn : OpD k (rNotInA k.K) dNotIn := fun {F Z H x y d e z Q} eZ eF hx hy he q => by
  obtain ⟨b, hb, rfl⟩ := Option.map_eq_some_iff.mp he
  rcases in_ok (R := fun b => Q (.bl (!b)) H) eZ eF hx hy hb q.bl with h | ⟨p, xs, h1, h2, h3, h4, h5⟩ | h
  · exact .inl h
  · exact .inr (.inl ⟨p, xs, h1, h2, h3, h4, h5⟩)
  · exact .inr (.inr h)
/-! ### subscripts -/
def dIx : D → D → Option D
  | .lst ds, .int i => atI ds i
  | .tup ds, .int i => atI ds i
  | .str z, .int i => if z.length ≤ sizeLine then (atI z.cps.toList i).map fun c => .str ⟨#[c]⟩ else none
  | .scr ns, .int i => (atI ns i).map .int
  | _, _ => none
theorem atI_reps {Z : Hp} {ds : List D} {vs : List V} {i : Int} {d : D} (h : Reps k Z ds vs) (e : atI ds i = some d) : ∃ v, atI vs i = some v ∧ Rep k Z d v := by
  unfold atI at e ⊢
  rw [← h.length]
  cases hj : ixN ds.length i with
  | none => rw [hj] at e; cases e
  | some j =>
    rw [hj] at e
    exact h.get e
theorem atI_map {α β : Type} (f : α → β) (xs : List α) (i : Int) : atI (xs.map f) i = (atI xs i).map f := by
  unfold atI
  rw [List.length_map]
  cases ixN xs.length i with
  | none => rfl
  | some j => exact List.getElem?_map
theorem opd_ix : OpD k (rIx k.K) dIx := fun {F Z H x y d e z Q} eZ eF hx hy he q => by
  unfold dIx at he
  split at he
  · rename_i ds i
    obtain ⟨p, vs, h1, h2, h3⟩ := hx.lst eZ eF
    obtain ⟨v, h4, h5⟩ := atI_reps h3 he
    exact .inl ⟨p, vs, i, v, h1, hy.int, SqL.of h2, h4, q.1 _ h5⟩
  · rename_i ds i
    obtain ⟨p, vs, h1, h2, h3⟩ := hx.tup eZ
    obtain ⟨v, h4, h5⟩ := atI_reps h3 he
    exact .inr (.inl ⟨p, vs, i, v, h1, hy.int, SqT.of h2, h4, q.1 _ h5⟩)
  · rename_i w i
    split at he
    · rename_i hl
      obtain ⟨c, h1, h2⟩ := Option.map_eq_some_iff.mp he
      subst h2
      exact .inr (.inr ⟨w, i, c, hx.str, hy.int, hl, h1, q.str⟩)
    · cases he
  · rename_i ns i
    obtain ⟨c, h1, h2⟩ := Option.map_eq_some_iff.mp he
    subst h2
    obtain ⟨p, h3, h4⟩ := hx.scr eZ
    exact .inl ⟨p, _, i, .int c, h3, hy.int, h4, by rw [atI_map, h1]; rfl, q.int⟩
  · cases he
/-! ### built-ins -/
def cLen : List D → Option D
  | [.lst ds] => some (.int ds.length)
  | [.tup ds] => some (.int ds.length)
  | [.str x] => if x.length ≤ sizeLine then some (.int x.length) else none
  | _ => none
theorem cd_len : CallD k (fun xs H Q => ∃ x n, xs = [x] ∧ LenV k.K x H n ∧ Q (.int n) H) cLen := fun {F Z H xs ds z Q} eZ eF hx he q => by
  unfold cLen at he
  split at he
  · rename_i es
    cases he
    obtain ⟨v, rfl, r⟩ := repBs1 hx
    obtain ⟨p, vs, rfl, h2, h3⟩ := r.lst eZ eF
    exact ⟨_, es.length, rfl, .inl ⟨vs, SqL.of h2, h3.length⟩, q.int⟩
  · rename_i es
    cases he
    obtain ⟨v, rfl, r⟩ := repBs1 hx
    obtain ⟨p, vs, rfl, h2, h3⟩ := r.tup eZ
    exact ⟨_, es.length, rfl, .inr ⟨vs, SqT.of h2, h3.length⟩, q.int⟩
  · rename_i w
    split at he
    · rename_i hl
      cases he
      obtain ⟨v, rfl, r⟩ := repBs1 hx
      exact ⟨_, w.length, rfl, by rw [r.str]; exact ⟨hl, rfl⟩, q.int⟩
    · cases he
  · cases he
def cList : List D → Option D
  | [.lst ds] => some (.lst ds)
  | [.tup ds] => some (.lst ds)
  | [.scr ns] => some (.lst (ns.map .int))
  | _ => none
theorem reps_ints {Z : Hp} : ∀ ns : List Int, Reps k Z (ns.map .int) (ns.map V.int)
  | [] => Reps.nil
  | n :: ns => Reps.cons (rep_int.mpr rfl) (reps_ints ns)
theorem cf_list : CallF k (fun xs H Q => ∃ p ys, xs = [.ref p] ∧ (SqL k.K H p ys ∨ SqT k.K H p ys) ∧ ∀ l, H l = none → Q (.ref l) (upd H l (.lst ys))) cList := fun {F Z H xs ds z Q} eZ eF hx he q => by
  unfold cList at he
  split at he
  · rename_i es
    cases he
    obtain ⟨v, rfl, r⟩ := repBs1 hx
    obtain ⟨p, vs, rfl, h2, h3⟩ := r.lst eZ eF
    exact ⟨p, vs, rfl, .inl (SqL.of h2), fun l hl => q l _ hl ⟨vs, rfl, h3⟩⟩
  · rename_i es
    cases he
    obtain ⟨v, rfl, r⟩ := repBs1 hx
    obtain ⟨p, vs, rfl, h2, h3⟩ := r.tup eZ
    exact ⟨p, vs, rfl, .inr (SqT.of h2), fun l hl => q l _ hl ⟨vs, rfl, h3⟩⟩
  · rename_i ns
    cases he
    obtain ⟨v, rfl, r⟩ := repBs1 hx
    obtain ⟨p, rfl, h2⟩ := r.scr eZ
    exact ⟨p, _, rfl, .inl h2, fun l hl => q l _ hl ⟨_, rfl, reps_ints ns⟩⟩
  · cases he
def cTuple : List D → Option D
  | [.lst ds] => some (.tup ds)
  | [.tup ds] => some (.tup ds)
  | _ => none
theorem cd_tuple : CallD k (fun xs H Q => ∃ p ys, xs = [.ref p] ∧ ((SqL k.K H p ys ∧ ∀ l, H l = none → Q (.ref l) (upd H l (.tup ys))) ∨ (SqT k.K H p ys ∧ Q (.ref p) H))) cTuple := fun {F Z H xs ds z Q} eZ eF hx he q => by
  unfold cTuple at he
  split at he
  · rename_i es
    cases he
    obtain ⟨v, rfl, r⟩ := repBs1 hx
    obtain ⟨p, vs, rfl, h2, h3⟩ := r.lst eZ eF
    exact ⟨p, vs, rfl, .inl ⟨SqL.of h2, fun l hl => q.tup h3 hl eZ⟩⟩
  · rename_i es
    cases he
    obtain ⟨v, rfl, r⟩ := repBs1 hx
    rcases r with r | ⟨_, _, _, _, r⟩
    · obtain ⟨p, vs, rfl, h2, h3⟩ := rep_tup.mp r
      exact ⟨p, vs, rfl, .inr ⟨SqT.of (eZ _ _ h2), q.1 _ r⟩⟩
    · exact r.elim
  · cases he
/-- a list of ints, of bools -/
def intsOf : List D → Option (List Int)
  | [] => some []
  | .int i :: ds => (intsOf ds).map (i :: ·)
  | _ :: _ => none
def blsOf : List D → Option (List Bool)
  | [] => some []
  | .bl i :: ds => (blsOf ds).map (i :: ·)
  | _ :: _ => none
theorem intsOf_reps {Z : Hp} : ∀ {ds : List D} {ns : List Int} {vs : List V}, intsOf ds = some ns → Reps k Z ds vs → vs = ns.map V.int
  | [], ns, vs, e, h => by cases e; exact reps_nil.mp h
  | .int i :: ds, ns, vs, e, h => by
    obtain ⟨ms, h1, rfl⟩ := Option.map_eq_some_iff.mp (show (intsOf ds).map (i :: ·) = some ns from e)
    obtain ⟨v, r, rfl, h2, h3⟩ := reps_cons.mp h
    rw [rep_int.mp h2, intsOf_reps h1 h3]
    rfl
  | .non :: _, _, _, e, _ => by cases e
  | .bl _ :: _, _, _, e, _ => by cases e
  | .str _ :: _, _, _, e, _ => by cases e
  | .lst _ :: _, _, _, e, _ => by cases e
  | .tup _ :: _, _, _, e, _ => by cases e
  | .dct _ _ _ :: _, _, _, e, _ => by cases e
  | .ins _ _ _ :: _, _, _, e, _ => by cases e
  | .scr _ :: _, _, _, e, _ => by cases e
  | .ctup _ :: _, _, _, e, _ => by cases e
theorem blsOf_reps {Z : Hp} : ∀ {ds : List D} {ns : List Bool} {vs : List V}, blsOf ds = some ns → Reps k Z ds vs → vs = ns.map V.bl
  | [], ns, vs, e, h => by cases e; exact reps_nil.mp h
  | .bl i :: ds, ns, vs, e, h => by
    obtain ⟨ms, h1, rfl⟩ := Option.map_eq_some_iff.mp (show (blsOf ds).map (i :: ·) = some ns from e)
    obtain ⟨v, r, rfl, h2, h3⟩ := reps_cons.mp h
    rw [rep_bl.mp h2, blsOf_reps h1 h3]
    rfl
  | .non :: _, _, _, e, _ => by cases e
  | .int _ :: _, _, _, e, _ => by cases e
  | .str _ :: _, _, _, e, _ => by cases e
  | .lst _ :: _, _, _, e, _ => by cases e
  | .tup _ :: _, _, _, e, _ => by cases e
  | .dct _ _ _ :: _, _, _, e, _ => by cases e
  | .ins _ _ _ :: _, _, _, e, _ => by cases e
  | .scr _ :: _, _, _, e, _ => by cases e
  | .ctup _ :: _, _, _, e, _ => by cases e
theorem reps_bls {Z : Hp} : ∀ ns : List Bool, Reps k Z (ns.map .bl) (ns.map V.bl)
  | [] => Reps.nil
  | n :: ns => Reps.cons (rep_bl.mpr rfl) (reps_bls ns)
def cAll : List D → Option D
  | [.lst ds] => (blsOf ds).map fun bs => .bl (bs.all id)
  | _ => none
def cAny : List D → Option D
  | [.lst ds] => (blsOf ds).map fun bs => .bl (bs.any id)
  | _ => none
def cSum : List D → Option D
  | [.lst ds] => (intsOf ds).map fun ns => .int ns.sum
  | _ => none
theorem cd_all : CallD k (rAll k.K) cAll := fun {F Z H xs ds z Q} eZ eF hx he q => by
  unfold cAll at he
  split at he
  · rename_i es
    obtain ⟨bs, h1, rfl⟩ := Option.map_eq_some_iff.mp he
    obtain ⟨v, rfl, r⟩ := repBs1 hx
    obtain ⟨p, vs, rfl, h2, h3⟩ := r.lst eZ eF
    rw [blsOf_reps h1 h3] at h2
    exact ⟨p, bs, rfl, SqL.of h2, q.bl⟩
  · cases he
theorem cd_any : CallD k (rAny k.K) cAny := fun {F Z H xs ds z Q} eZ eF hx he q => by
  unfold cAny at he
  split at he
  · rename_i es
    obtain ⟨bs, h1, rfl⟩ := Option.map_eq_some_iff.mp he
    obtain ⟨v, rfl, r⟩ := repBs1 hx
    obtain ⟨p, vs, rfl, h2, h3⟩ := r.lst eZ eF
    rw [blsOf_reps h1 h3] at h2
    exact ⟨p, bs, rfl, SqL.of h2, q.bl⟩
  · cases he
theorem cd_sum : CallD k (rSum k.K) cSum := fun {F Z H xs ds z Q} eZ eF hx he q => by
  unfold cSum at he
  split at he
  · rename_i es
    obtain ⟨ns, h1, rfl⟩ := Option.map_eq_some_iff.mp he
    obtain ⟨v, rfl, r⟩ := repBs1 hx
    obtain ⟨p, vs, rfl, h2, h3⟩ := r.lst eZ eF
    rw [intsOf_reps h1 h3] at h2
    exact ⟨p, ns, rfl, SqL.of h2, q.int⟩
  · cases he
def cMin : List D → Option D
  | [.int i, .int j] => some (.int (if j < i then j else i))
  | _ => none
def cMax : List D → Option D
  | [.int i, .int j] => some (.int (if j > i then j else i))
  | _ => none
theorem cd_min : CallD k (fun xs H Q => ∃ i j, xs = [.int i, .int j] ∧ Q (.int (if j < i then j else i)) H) cMin := fun {F Z H xs ds z Q} eZ eF hx he q => by
  unfold cMin at he
  split at he
  · rename_i i j
    cases he
    obtain ⟨v, u, rfl, r1, r2⟩ := repBs2 hx
    exact ⟨i, j, by rw [r1.int, r2.int], q.int⟩
  · cases he
theorem cd_max : CallD k (fun xs H Q => ∃ i j, xs = [.int i, .int j] ∧ Q (.int (if j > i then j else i)) H) cMax := fun {F Z H xs ds z Q} eZ eF hx he q => by
  unfold cMax at he
  split at he
  · rename_i i j
    cases he
    obtain ⟨v, u, rfl, r1, r2⟩ := repBs2 hx
    exact ⟨i, j, by rw [r1.int, r2.int], q.int⟩
  · cases he
/-- int(..) of an int, a bool -/
def cInt : List D → Option D
  | [.int i] => some (.int i)
  | [.bl b] => some (.int (if b then 1 else 0))
  | _ => none
theorem cd_int : CallD k (fun xs H Q => (∃ i, xs = [.int i] ∧ Q (.int i) H) ∨ ∃ k, xs = [.bl k] ∧ Q (.int (if k then 1 else 0)) H) cInt := fun {F Z H xs ds z Q} eZ eF hx he q => by
  unfold cInt at he
  split at he
  · rename_i i
    cases he
    obtain ⟨v, rfl, r⟩ := repBs1 hx
    exact .inl ⟨i, by rw [r.int], q.int⟩
  · rename_i b
    cases he
    obtain ⟨v, rfl, r⟩ := repBs1 hx
    exact .inr ⟨b, by rw [r.bl], q.int⟩
  · cases he
/-- isinstance(x, T), T a built-in class -/
def tyD : D → Option String
  | .non => some "NoneType" | .bl _ => some "bool" | .int _ => some "int" | .str _ => some "str" | .lst _ => some "list" | .tup _ => some "tuple"
  | _ => none
def cIsi (T : String) (d : D) : Option D := (tyD d).bind fun t => (kitB t T).map .bl
end
end Hw
/-! Hw, part 10: containers that change, dicts, slices, isinstance. -/
namespace Hw
open PySem PySem.Spec L2
variable [Tb]

/-! ### the content of a slot that may change -/
def getC (i : Nat) (ρ : Rho) (τ : Tau) : Option D := match ρ[i]? with
  | some (.own d) => some d
  | some (.io j) => τ[j]?
  | _ => none
def setC (i : Nat) (d : D) (ρ : Rho) (τ : Tau) : Rho × Tau := match ρ[i]? with
  | some (.own _) => (ρ.set i (.own d), τ)
  | some (.io j) => (ρ, τ.set j d)
  | _ => (ρ, τ)
section
variable {k : Kx} {A : List Addr} {F0 F H Z : Hp} {ρ : Rho} {σ : L2.St} {τ : Tau}
theorem Wd.updF {p : Addr} {o u : HO} (w : Wd k A F τ H Z) (h : F p = some o) (hu : isPl u = true) : Wd k A (upd F p u) τ (upd H p u) Z := by
  have e : upd F p o = F := by
    funext b
    by_cases hb : b = p
    · subst hb; rw [upd_same, h]
    · rw [upd_ne hb]
  have w' : Wd k A (upd F p o) τ H Z := by rw [e]; exact w
  exact w'.acc (u := u) hu
theorem Sl.updF {i : Nat} {a : Addr} {d d' : D} {o u : HO} (s : Sl k A F0 F ρ σ Z) (hi : ρ[i]? = some (.own d)) (ha : σ[i]? = some (some (V.ref a))) (hF : F a = some o) (hu : OwnO k Z d' u) : Sl k A F0 (upd F a u) (ρ.set i (.own d')) σ Z := by
  have hil : i < ρ.length := (List.getElem?_eq_some_iff.mp hi).1
  obtain ⟨a', o', h1, h2, h3, h4⟩ := s.own i d hi
  rw [h1] at ha
  cases ha
  refine ⟨by rw [List.length_set]; exact s.len, fun j e h => ?_, fun j e h => ?_, fun j l h => ?_, fun j l e f b g1 g2 g3 g4 => ?_, fun b x hb => ?_⟩
  · by_cases hj : i = j
    · subst hj; rw [List.getElem?_set_self hil] at h; cases h
    · rw [List.getElem?_set_ne hj] at h; exact s.fz j e h
  · by_cases hj : i = j
    · subst hj
      rw [List.getElem?_set_self hil] at h
      cases h
      exact ⟨a, u, h1, upd_same, h3, hu⟩
    · rw [List.getElem?_set_ne hj] at h
      obtain ⟨b, x, g1, g2, g3, g4⟩ := s.own j e h
      have : b ≠ a := fun z => hj (s.ap i j d e a hi h h1 (by rw [← z]; exact g1))
      exact ⟨b, x, g1, by rw [upd_ne this]; exact g2, g3, g4⟩
  · by_cases hj : i = j
    · subst hj; rw [List.getElem?_set_self hil] at h; cases h
    · rw [List.getElem?_set_ne hj] at h; exact s.io j l h
  · have back : ∀ (m : Nat) (y : D), (ρ.set i (.own d'))[m]? = some (.own y) → ∃ y', ρ[m]? = some (.own y') := fun m y hm => by
      by_cases hj : i = m
      · subst hj; exact ⟨d, hi⟩
      · rw [List.getElem?_set_ne hj] at hm; exact ⟨y, hm⟩
    obtain ⟨y1, g1'⟩ := back j e g1
    obtain ⟨y2, g2'⟩ := back l f g2
    exact s.ap j l y1 y2 b g1' g2' g3 g4
  · have : b ≠ a := fun z => by rw [z, h3] at hb; cases hb
    rw [upd_ne this]
    exact s.f0 b x hb
theorem Wd.updIo {j : Nat} {a : Addr} {d : D} {u : HO} (w : Wd k A F τ H Z) (ha : A[j]? = some a) (hu : OwnO k Z d u) : Wd k A F (τ.set j d) (upd H a u) Z := by
  have hm := List.mem_of_getElem? ha
  obtain ⟨z0, f0⟩ := w.out a hm
  refine ⟨fun b x hb => ?_, fun b x hb => ?_, w.zf, by rw [List.length_set]; exact w.len, fun l b e h1 h2 => ?_, w.out, w.nd, ?_, w.pl⟩
  rotate_right
  · obtain ⟨d0, hd0⟩ : ∃ d0, τ[j]? = some d0 := by
      have := (List.getElem?_eq_some_iff.mp ha).1
      rw [w.len] at this
      exact ⟨_, List.getElem?_eq_getElem this⟩
    obtain ⟨o, h1, h2⟩ := w.io j a d0 ha hd0
    exact tabs_no w.tabs h1 h2.pl
  · rw [upd_ne (ne_of_none hb z0)]; exact w.zh b x hb
  · rw [upd_ne (ne_of_none hb f0)]; exact w.fh b x hb
  · by_cases hl : j = l
    · subst hl
      rw [ha] at h1
      cases h1
      have hj : j < τ.length := by
        have := (List.getElem?_eq_some_iff.mp h2).1
        rw [List.length_set] at this
        exact this
      rw [List.getElem?_set_self hj] at h2
      cases h2
      exact ⟨u, upd_same, hu⟩
    · rw [List.getElem?_set_ne hl] at h2
      obtain ⟨o, h3, h4⟩ := w.io l b e h1 h2
      have : b ≠ a := fun z => by
        subst z
        have e1 := (List.getElem?_eq_some_iff.mp h1)
        have e2 := (List.getElem?_eq_some_iff.mp ha)
        exact hl ((List.getElem_inj w.nd).mp (e2.2.trans e1.2.symm))
      exact ⟨o, by rw [upd_ne this]; exact h3, h4⟩
/-- the slot's container stands at a; another content may be put there -/
theorem cont_at {i : Nat} {d : D} (w : Wd k A F τ H Z) (s : Sl k A F0 F ρ σ Z) (h : getC i ρ τ = some d) : ∃ a o, σ[i]? = some (some (V.ref a)) ∧ H a = some o ∧ OwnO k Z d o ∧
    ∀ d' u, OwnO k Z d' u → ∃ F', Wd k A F' (setC i d' ρ τ).2 (upd H a u) Z ∧ Sl k A F0 F' (setC i d' ρ τ).1 σ Z := by
  unfold getC at h
  split at h
  · rename_i c hc
    cases h
    obtain ⟨a, o, h1, h2, h3, h4⟩ := s.own i d hc
    refine ⟨a, o, h1, w.fh _ _ h2, h4, fun d' u hu => ?_⟩
    unfold setC
    rw [hc]
    exact ⟨_, w.updF h2 hu.pl, s.updF hc h1 h2 hu⟩
  · rename_i j hj
    obtain ⟨a, h1, h2⟩ := s.io i j hj
    obtain ⟨o, h3, h4⟩ := w.io j a d h1 h
    refine ⟨a, o, h2, h3, h4, fun d' u hu => ?_⟩
    unfold setC
    rw [hj]
    exact ⟨F, w.updIo h1 hu, s⟩
  · cases h
end
/-- where slot i points, whatever it holds -/
theorem ref_same {k : Kx} {A : List Addr} {F0 F H Z H' Z' : Hp} {ρ : Rho} {σ : L2.St} {τ τ' : Tau} {i : Nat} {d d' : D} {a b : Addr} (h1 : σ[i]? = some (some (V.ref a))) (h2 : σ[i]? = some (some (V.ref b))) : a = b := by
  rw [h1] at h2; cases h2; rfl

/-! ### x.m(..) that changes x -/
abbrev RM := V → List V → Hp → VK → Prop
def MutD (k : Kx) (r : RM) (f : D → List D → Option D) : Prop := ∀ {Z H : Hp} {p : Addr} {o : HO} {c c' : D} {ds : List D} {vs : List V} {Q : VK}, Same Z H → H p = some o → OwnO k Z c o → Reps k Z ds vs → f c ds = some c' → (∀ u, OwnO k Z c' u → Q .non (upd H p u)) → r (.ref p) vs H Q
def isLst : D → Bool
  | .lst _ => true
  | _ => false
def sMut (i : Nat) (f : D → List D → Option D) (a : SA) : SS := fun ρ τ => match getC i ρ τ with
  | none => .bad
  | some c0 => if isLst c0 = true then (a ρ τ).andS ρ fun ds τ1 => match getC i ρ τ1 with
      | none => .bad
      | some c => match f c ds with
        | none => .bad
        | some c' => .nx (setC i c' ρ τ1).1 (setC i c' ρ τ1).2
    else .bad
section
variable {X : Cx} {W : WX} {r : Bool} {e : Expr} {es : List Expr} {ma : SA} {pos cpos apos : Pos} {rm : RM} {f : D → List D → Option D} {id : String} {name x : Str}
theorem mut_ok {i : Nat} (hd : MutD ⟨X.K, X.mg⟩ rm f) : ∀ D σ H, tS (jx X W) r (sMut i f ma) D σ H → tDrop (tBM X.K "list" rm (tVar i) (tAV (jx X W) ma)) D σ H := fun D σ H ⟨ρ, τ, A, F0, F, Z, w, s, q⟩ => by
  unfold sMut at q
  cases hc : getC i ρ τ with
  | none => rw [hc] at q; exact q.elim
  | some c0 =>
    rw [hc] at q
    dsimp only at q
    split at q
    · rename_i hl
      obtain ⟨a, o, h1, h2, h3, _⟩ := cont_at w s hc
      obtain ⟨ds0, rfl⟩ : ∃ ds, c0 = .lst ds := by
        cases c0 with
        | lst ds => exact ⟨ds, rfl⟩
        | _ => cases hl
      obtain ⟨vs0, rfl, h4⟩ := h3
      refine ⟨.ref a, h1, .inl ⟨rfl, vs0, SqL.of h2⟩, ρ, τ, A, F0, F, Z, w, s, After.andS q fun ds τ1 H1 Z1 w1 e1 q1 vs rv => ?_⟩
      cases hc1 : getC i ρ τ1 with
      | none => rw [hc1] at q1; exact q1.elim
      | some c =>
        rw [hc1] at q1
        dsimp only at q1
        obtain ⟨a', o', g1, g2, g3, g4⟩ := cont_at w1 (s.mono e1) hc1
        rw [h1] at g1
        cases g1
        cases hf : f c ds with
        | none => rw [hf] at q1; exact q1.elim
        | some c' =>
          rw [hf] at q1
          refine hd w1.zh g2 g3 rv hf fun u hu => ?_
          obtain ⟨F', w2, s2⟩ := g4 c' u hu
          exact AfterS.next q1 w2 s2
    · exact q.elim
theorem es_mut (i : Nat) (hm : MtR X id rm) (hd : MutD ⟨X.K, X.mg⟩ rm f) (slot : Slot "list" name id) (hty : typeOf (.builtin id) = pure (.type "method_descriptor")) (ha : EAV X W (e :: es) ma) (hN : X.N[i]? = some x := by rfl) (hv : Vis X.env.scope x := by first | exact Or.inl rfl | exact Or.inr (Or.inl rfl) | exact Or.inr (Or.inr rfl)) {p2 : Pos} (hdb : (x == ("__debug__" : Str)) = false := by decide)
    (hcd : (x == ("__classdict__" : Str)) = false := by decide) (hbase : attributeBase (.Name x p2) name X.env (eval (.Name x p2) X.env) = eval (.Name x p2) X.env := by rfl)
    (hfew : ((backTo cpos (starEach (e :: es) X.env)).all (fun x => !x.1) && (backToKw cpos (keywordEach [] X.env)).all (fun x => x.1.isSome)
      && decide ((e :: es).length + ([] : List Keyword).length + (if ([] : List Keyword).isEmpty then 0 else 1) < 30)) = true := by rfl)
    (hline : (apos.endLine == cpos.line) = true := by rfl) (hs : starEach (e :: es) X.env = (false, eval e X.env) :: starEach es X.env := by rfl) (hplain : (backTo cpos (starEach es X.env)).any (·.1) = false := by rfl)
    (hsw : swapsWith (.Call (.Attribute (.Name x p2) name apos) (e :: es) [] cpos) none pos.line X.env = pure false := by rfl) : ES X W r (.Expr (.Call (.Attribute (.Name x p2) name apos) (e :: es) [] cpos) pos) (sMut i f ma) :=
  ps_weak (ps_expr (pe_bm PySem.F.plainAttrs_list slot hty hm (pe_var hN hv hdb hcd) ha hbase hfew hline hs hplain) hsw) (mut_ok hd)
end
def mAppend : D → List D → Option D
  | .lst ds, [d] => if ds.length < sizeLine then some (.lst (ds ++ [d])) else none
  | _, _ => none
def mExtend : D → List D → Option D
  | .lst ds, [.lst es] => if ds.length + es.length ≤ sizeLine then some (.lst (ds ++ es)) else none
  | _, _ => none
def mInsert : D → List D → Option D
  | .lst ds, [.int i, d] => if ds.length < sizeLine ∧ 0 ≤ i ∧ i < 2 ^ 63 then some (.lst (ds.take i.toNat ++ [d] ++ ds.drop i.toNat)) else none
  | _, _ => none
section
variable {k : Kx}
theorem reps1 {Z : Hp} {d : D} {vs : List V} (h : Reps k Z [d] vs) : ∃ v, vs = [v] ∧ Rep k Z d v := by
  obtain ⟨v, r, rfl, h1, h2⟩ := reps_cons.mp h
  rw [reps_nil.mp h2]
  exact ⟨v, rfl, h1⟩
theorem reps2 {Z : Hp} {d e : D} {vs : List V} (h : Reps k Z [d, e] vs) : ∃ v u, vs = [v, u] ∧ Rep k Z d v ∧ Rep k Z e u := by
  obtain ⟨v, r, rfl, h1, h2⟩ := reps_cons.mp h
  obtain ⟨u, rfl, h3⟩ := reps1 h2
  exact ⟨v, u, rfl, h1, h3⟩
theorem md_append : MutD k rAppend mAppend := fun {Z H p o c c' ds vs Q} eZ hp ho rv hf q => by
  unfold mAppend at hf
  split at hf
  · rename_i es d
    split at hf
    · rename_i hl
      cases hf
      obtain ⟨us, rfl, h1⟩ := ho
      obtain ⟨v, rfl, h2⟩ := reps1 rv
      exact ⟨p, us, v, rfl, rfl, hp, by rw [← h1.length]; exact hl, q _ ⟨_, rfl, h1.append (Reps.cons h2 Reps.nil)⟩⟩
    · cases hf
  · cases hf
theorem md_extend : MutD k rExtend mExtend := fun {Z H p o c c' ds vs Q} eZ hp ho rv hf q => by
  unfold mExtend at hf
  split at hf
  · rename_i es ds'
    split at hf
    · rename_i hl
      cases hf
      obtain ⟨us, rfl, h1⟩ := ho
      obtain ⟨v, rfl, h2⟩ := reps1 rv
      obtain ⟨b, zs, rfl, h3, h4⟩ := rep_lst.mp h2
      exact ⟨p, b, us, zs, rfl, rfl, hp, eZ _ _ h3, by rw [← h1.length, ← h4.length]; exact hl, q _ ⟨_, rfl, h1.append h4⟩⟩
    · cases hf
  · cases hf
theorem md_insert : MutD k (fun x vs H Q => ∃ (l : Addr) (xs : List V) (i : Int) (y : V), x = .ref l ∧ vs = [.int i, y] ∧ H l = some (.lst xs) ∧ xs.length < sizeLine ∧ 0 ≤ i ∧ i < 2 ^ 63 ∧
    Q .non (upd H l (.lst (xs.take i.toNat ++ [y] ++ xs.drop i.toNat)))) mInsert := fun {Z H p o c c' ds vs Q} eZ hp ho rv hf q => by
  unfold mInsert at hf
  split at hf
  · rename_i es i d
    split at hf
    · rename_i hl
      cases hf
      obtain ⟨us, rfl, h1⟩ := ho
      obtain ⟨v, u, rfl, h2, h3⟩ := reps2 rv
      rw [rep_int.mp h2]
      exact ⟨p, us, i, u, rfl, rfl, hp, by rw [← h1.length]; exact hl.1, hl.2.1, hl.2.2, q _ ⟨_, rfl, ((h1.take _).append (Reps.cons h3 Reps.nil)).append (h1.drop _)⟩⟩
    · cases hf
  · cases hf
end

/-! ### x[i] = e -/
def sPut (i : Nat) (ix : SE) (m : SE) : SS := fun ρ τ => (m ρ τ).andS ρ fun d τ1 => match getC i ρ τ1 with
  | none => .bad
  | some _ => (ix ρ τ1).andS ρ fun j τ2 => match getC i ρ τ2 with
    | some (.lst ds) => match j with
      | .int n => match ixN ds.length n with
        | some l => .nx (setC i (.lst (ds.set l d)) ρ τ2).1 (setC i (.lst (ds.set l d)) ρ τ2).2
        | none => .bad
      | _ => .bad
    | _ => .bad
section
variable {X : Cx} {W : WX} {r : Bool} {e ie : Expr} {m mi : SE} {pos p2 p3 : Pos} {x : Str}
theorem put_ok {i : Nat} : ∀ D σ H, tS (jx X W) r (sPut i mi m) D σ H → tAsg (tE (jx X W) m) (gSub (tVar i) (tB (jx X W) mi) rSetL) D σ H := fun D σ H ⟨ρ, τ, A, F0, F, Z, w, s, q⟩ =>
  ⟨ρ, τ, A, F0, F, Z, w, s, After.andS q fun d τ1 H1 Z1 w1 e1 q1 v rv => by
    cases h0 : getC i ρ τ1 with
    | none => rw [h0] at q1; exact q1.elim
    | some c0 =>
      rw [h0] at q1
      dsimp only at q1
      obtain ⟨a, _, ha, _⟩ := cont_at w1 (s.mono e1) h0
      exact ⟨.ref a, ha, ρ, τ1, A, F0, F, Z1, w1, s.mono e1, After.andS q1 fun j τ2 H2 Z2 w2 e2 q2 u ru => by
        cases hc : getC i ρ τ2 with
        | none => rw [hc] at q2; exact q2.elim
        | some c =>
          rw [hc] at q2
          cases c with
          | lst ds =>
            cases j with
            | int n =>
              dsimp only at q2
              cases hl : ixN ds.length n with
              | none => rw [hl] at q2; exact q2.elim
              | some l =>
                rw [hl] at q2
                obtain ⟨a', o', g1, g2, g3, g4⟩ := cont_at w2 (s.mono (e1.trans e2)) hc
                rw [ha] at g1
                cases g1
                obtain ⟨us, rfl, g5⟩ := g3
                obtain ⟨F', w3, s3⟩ := g4 (.lst (ds.set l d)) (.lst (us.set l v)) ⟨_, rfl, Reps.set (rv.mono e2) l g5⟩
                exact ⟨a, us, n, l, rfl, ru.int, g2, by rw [← g5.length]; exact hl, AfterS.next q2 w3 s3⟩
            | _ => exact q2.elim
          | _ => exact q2.elim⟩⟩
theorem es_put (i : Nat) (he : EV X W e m) (hi : EB X W ie mi) (hN : X.N[i]? = some x := by rfl) (hv : Vis X.env.scope x := by first | exact Or.inl rfl | exact Or.inr (Or.inl rfl) | exact Or.inr (Or.inr rfl)) (hd : (x == ("__debug__" : Str)) = false := by decide)
    (hcd : (x == ("__classdict__" : Str)) = false := by decide) (hs : swapsWithSole [.Subscript (.Name x p2) ie p3] e pos.line X.env = pure false := by rfl) (hw : swappedStores [.Subscript (.Name x p2) ie p3] e X.env = pure none := by rfl)
    (h1 : (assignEach [.Subscript (.Name x p2) ie p3] X.env).map (·.2) = [assign (.Subscript (.Name x p2) ie p3) X.env] := by rfl)
    (ha : ∀ v, assign (.Subscript (.Name x p2) ie p3) X.env v = (do
      let ov ← holding [v] (eval (.Name x p2) X.env)
      let iv ← holding [v, ov] (eval ie X.env)
      standAt p3
      holding [v, ov, iv] (setItem ov iv v)
      release [v, ov, iv] []) := by intro _; rfl) : ES X W r (.Assign [.Subscript (.Name x p2) ie p3] e pos) (sPut i mi m) :=
  ps_weak (ps_asg he (pg_sub (pe_var hN hv hd hcd) hi set_list ha) hs hw h1) put_ok
/-- a lent list that is read at a place -/
def eIoIx (i : Nat) (n : Int) : SE := fun ρ τ => match ρ[i]? with
  | some (.io j) => match τ[j]? with
    | some (.lst ds) => .of (atI ds n) τ
    | _ => .bad
  | _ => .bad
theorem ev_ioix (i : Nat) {n : Int} {l : Nat} (hN : X.N[i]? = some x := by rfl) (hv : Vis X.env.scope x := by first | exact Or.inl rfl | exact Or.inr (Or.inl rfl) | exact Or.inr (Or.inr rfl)) (hd : (x == ("__debug__" : Str)) = false := by decide)
    (hcd : (x == ("__classdict__" : Str)) = false := by decide) (hs : PlainIx (.Constant (.int n) l p3) := by intro _ _; rfl) : EV X W (.Subscript (.Name x p2) (.Constant (.int n) l p3) pos) (eIoIx i n) := pe_weak (pe_ix ix_list (pe_var hN hv hd hcd) pe_int hs) fun σ H Q ⟨ρ, τ, A, F0, F, Z, w, s, q⟩ => by
  unfold eIoIx at q
  split at q
  · rename_i j hj
    obtain ⟨a, h1, h2⟩ := s.io i j hj
    split at q
    · rename_i ds hds
      obtain ⟨o, h3, h4⟩ := w.io j a _ h1 hds
      obtain ⟨vs, rfl, h5⟩ := h4
      obtain ⟨d, hd', q⟩ := After.of q
      obtain ⟨v, g1, g2⟩ := atI_reps h5 hd'
      exact ⟨.ref a, h2, a, vs, n, v, rfl, rfl, SqL.of h3, g1, After.ok q w v g2⟩
    · exact q.elim
  · exact q.elim
end

/-! ### dicts -/
def keq1 : D → D → Bool
  | .int i, .int j => decide (i = j)
  | .str x, .str y => decide (x = y)
  | _, _ => false
def keqL : List D → List D → Bool
  | [], [] => true
  | a :: as, b :: bs => keq1 a b && keqL as bs
  | _, _ => false
def keq (t : Bool) (a b : D) : Bool := match t, a, b with
  | true, .tup as, .tup bs => keqL as bs
  | false, a, b => keq1 a b
  | _, _, _ => false
/-- is it a key -/
def isK1 : D → Bool
  | .int _ => true | .str _ => true
  | _ => false
def isKey (t : Bool) (d : D) : Bool := match t, d with
  | true, .tup as => as.all isK1
  | false, d => isK1 d
  | _, _ => false
def getD2 (t : Bool) : List D → List D → D → Option D
  | k :: ks, v :: vs, d => if keq t k d then some v else getD2 t ks vs d
  | _, _, _ => none
def hasK (t : Bool) (ks : List D) (d : D) : Bool := ks.any fun k => keq t k d
def putD (t : Bool) (ks vs : List D) (d v : D) : D := if hasK t ks d then .dct t ks ((ks.zip vs).map fun p => if keq t p.1 d then v else p.2) else .dct t (ks ++ [d]) (vs ++ [v])
def dDget : D → D → Option D
  | .dct t ks vs, d => if isKey t d then getD2 t ks vs d else none
  | _, _ => none
def dDin (d s : D) : Option D := match s with
  | .dct t ks vs => if isKey t d then some (.bl (hasK t ks d)) else none
  | _ => none
def dDnotIn (d s : D) : Option D := match s with
  | .dct t ks vs => if isKey t d then some (.bl (!hasK t ks d)) else none
  | _ => none
/-- what a key stands for -/
theorem key1_of {k : Kx} {F Z : Hp} {d : D} {v : V} (h : isK1 d = true) (r : RepB k F Z d v) : ∃ κ : Key, d = keyD κ ∧ v = kV κ := by
  cases d with
  | int i => exact ⟨.inl i, rfl, r.int⟩
  | str x => exact ⟨.inr x, rfl, r.str⟩
  | non => cases h
  | bl _ => cases h
  | lst _ => cases h
  | tup _ => cases h
  | dct _ _ _ => cases h
  | ins _ _ _ => cases h
  | scr _ => cases h
  | ctup _ => cases h
theorem keys_of {k : Kx} {Z : Hp} : ∀ {ds : List D} {vs : List V}, ds.all isK1 = true → Reps k Z ds vs → ∃ κs : List Key, ds = κs.map keyD ∧ vs = κs.map kV
  | [], vs, _, r => ⟨[], rfl, reps_nil.mp r⟩
  | d :: ds, vs, h, r => by
    obtain ⟨v, u, rfl, r1, r2⟩ := reps_cons.mp r
    rw [List.all_cons, Bool.and_eq_true] at h
    obtain ⟨κ, h1, h2⟩ := key1_of (F := nopH) h.1 (.inl r1)
    obtain ⟨κs, h3, h4⟩ := keys_of h.2 r2
    exact ⟨κ :: κs, by rw [h1, h3]; rfl, by rw [h2, h4]; rfl⟩
theorem keq1_key (a b : Key) : keq1 (keyD a) (keyD b) = decide (a = b) := by
  cases a with
  | inl i =>
    cases b with
    | inl j => show decide (i = j) = _; exact (Bool.eq_iff_iff.mpr (by simp)).symm
    | inr y => exact (decide_eq_false (fun q => nomatch q)).symm
  | inr x =>
    cases b with
    | inl j => exact (decide_eq_false (fun q => nomatch q)).symm
    | inr y => show decide (x = y) = _; exact (Bool.eq_iff_iff.mpr (by simp)).symm
theorem keqL_key : ∀ (a b : List Key), keqL (a.map keyD) (b.map keyD) = decide (a = b)
  | [], [] => rfl
  | [], b :: bs => (decide_eq_false (fun q => nomatch q)).symm
  | a :: as, [] => (decide_eq_false (fun q => nomatch q)).symm
  | a :: as, b :: bs => by
    show (keq1 (keyD a) (keyD b) && keqL (as.map keyD) (bs.map keyD)) = _
    rw [keq1_key, keqL_key as bs]
    by_cases h1 : a = b
    · by_cases h2 : as = bs
      · rw [decide_eq_true h1, decide_eq_true h2, decide_eq_true (by rw [h1, h2])]; rfl
      · rw [decide_eq_true h1, decide_eq_false h2, decide_eq_false (fun q => h2 (List.cons.inj q).2)]; rfl
    · rw [decide_eq_false h1, decide_eq_false (fun q => h1 (List.cons.inj q).1)]; rfl
/-- a dict's look-up, over keys of any kind -/
theorem look_ok {k : Kx} {Z : Hp} {κ : Type} [DecidableEq κ] {t : Bool} {f : κ → D} {c : κ} (hk : ∀ a, keq t (f a) (f c) = decide (a = c)) : ∀ {kvs : List (κ × V)} {vs : List D}, Reps k Z vs (kvs.map (·.2)) →
    (∀ z, getD2 t (kvs.map fun p => f p.1) vs (f c) = some z → ∃ v, valV kvs c = some v ∧ Rep k Z z v) ∧ hasK t (kvs.map fun p => f p.1) (f c) = (valV kvs c).isSome
  | [], vs, r => ⟨fun z h => (by cases vs <;> cases h), rfl⟩
  | p :: kvs, vs, r => by
    cases vs with
    | nil => cases reps_nil.mp r
    | cons d vs =>
      obtain ⟨v, u, e, r1, r2⟩ := reps_cons.mp r
      cases e
      obtain ⟨ih1, ih2⟩ := look_ok hk (kvs := kvs) r2
      by_cases h : p.1 = c
      · refine ⟨fun z hz => ?_, ?_⟩
        · have hz : (if keq t (f p.1) (f c) then some d else getD2 t (kvs.map fun p => f p.1) vs (f c)) = some z := hz
          rw [hk, decide_eq_true h] at hz
          cases hz
          exact ⟨p.2, valV_pos h, r1⟩
        · show (keq t (f p.1) (f c) || hasK t (kvs.map fun p => f p.1) (f c)) = _
          rw [hk, decide_eq_true h, valV_pos h]
          rfl
      · refine ⟨fun z hz => ?_, ?_⟩
        · have hz : (if keq t (f p.1) (f c) then some d else getD2 t (kvs.map fun p => f p.1) vs (f c)) = some z := hz
          rw [hk, decide_eq_false h] at hz
          rw [valV_neg h]
          exact ih1 z hz
        · show (keq t (f p.1) (f c) || hasK t (kvs.map fun p => f p.1) (f c)) = _
          rw [hk, decide_eq_false h, valV_neg h, ih2]
          rfl
theorem put_reps {k : Kx} {Z : Hp} {κ : Type} [DecidableEq κ] {t : Bool} {f : κ → D} {c : κ} (hk : ∀ a, keq t (f a) (f c) = decide (a = c)) {d : D} {v : V} (rv : Rep k Z d v) : ∀ {kvs : List (κ × V)} {vs : List D}, Reps k Z vs (kvs.map (·.2)) →
    Reps k Z (((kvs.map fun p => f p.1).zip vs).map fun p => if keq t p.1 (f c) then d else p.2) ((kvs.map fun kv => if kv.1 = c then (kv.1, v) else kv).map (·.2))
  | [], vs, r => Reps.nil
  | p :: kvs, vs, r => by
    cases vs with
    | nil => cases reps_nil.mp r
    | cons e vs =>
      obtain ⟨x, u, he, r1, r2⟩ := reps_cons.mp r
      cases he
      have ih := put_reps hk rv (kvs := kvs) r2
      refine Reps.cons ?_ ih
      show Rep k Z (if keq t (f p.1) (f c) then d else e) (if p.1 = c then (p.1, v) else p).2
      rw [hk]
      by_cases h : p.1 = c
      · rw [decide_eq_true h, if_pos rfl, if_pos h]; exact rv
      · rw [decide_eq_false h, if_neg Bool.false_ne_true, if_neg h]; exact r1
theorem put_keys {κ : Type} [DecidableEq κ] {c : κ} {v : V} (f : κ → D) (kvs : List (κ × V)) : (kvs.map fun kv => if kv.1 = c then (kv.1, v) else kv).map (fun p => f p.1) = kvs.map fun p => f p.1 := by
  rw [List.map_map]
  apply List.map_congr_left
  intro p _
  show f (if p.1 = c then (p.1, v) else p).1 = f p.1
  split <;> rfl
section
variable {X : Cx} {W : WX} {r : Bool} {e ie : Expr} {m mi : SE} {pos p2 p3 : Pos} {x : Str}
/-- what the dict at x holds at a key -/
theorem dget_ok {k : Kx} {F Z H : Hp} {u : V} {t : Bool} {ks vs : List D} {d : D} {y : V} (eZ : Same Z H) (eF : Same F H) (rx : RepB k F Z (.dct t ks vs) u) (ry : RepB k F Z d y) (hkey : isKey t d = true) :
    ∃ a o, u = .ref a ∧ DGet H a y o ∧ (∀ z, getD2 t ks vs d = some z → ∃ v, o = some v ∧ Rep k Z z v) ∧ hasK t ks d = o.isSome := by
  obtain ⟨a, o, us, rfl, h2, h3, h4⟩ := rx.dct eZ eF
  rcases h3 with ⟨rfl, kvs, rfl, rfl, rfl⟩ | ⟨rfl, kvs, rfl, rfl, rfl⟩
  · obtain ⟨κ, rfl, rfl⟩ := key1_of hkey ry
    obtain ⟨g1, g2⟩ := look_ok (t := false) (f := keyD) (c := κ) (fun a => keq1_key a κ) h4
    exact ⟨a, _, rfl, DGet.k h2, g1, g2⟩
  · cases d with
    | tup ds =>
      obtain ⟨b, ws, rfl, h5, h6⟩ := ry.tup eZ
      obtain ⟨κs, rfl, rfl⟩ := keys_of hkey h6
      obtain ⟨g1, g2⟩ := look_ok (t := true) (f := fun l : List Key => D.tup (l.map keyD)) (c := κs) (fun a => keqL_key a κs) h4
      exact ⟨a, _, rfl, DGet.t h2 h5, g1, g2⟩
    | _ => cases hkey
theorem ev_dget (hu : X.A.units + 1 < cLine) (ho : EB X W e m) (hi : EB X W ie mi) (hs : NoSl ie := by intro _ _; rfl) : EV X W (.Subscript e ie pos) (eBin dDget m mi) := pe_weak (pe_dget hu ho hi hs) fun σ H Q ⟨ρ, τ, A, F0, F, Z, w, s, q⟩ =>
  ⟨ρ, τ, A, F0, F, Z, w, s, After.next q fun d τ1 H1 Z1 w1 e1 q1 x rx => ⟨ρ, τ1, A, F0, F, Z1, w1, s.mono e1, After.next q1 fun c τ2 H2 Z2 w2 e2 q2 y ry => by
    obtain ⟨z, hz, q3⟩ := After.of q2
    unfold dDget at hz
    split at hz
    · rename_i t ks vs
      split at hz
      · rename_i hk
        obtain ⟨a, o, rfl, g1, g2, g3⟩ := dget_ok w2.zh w2.fh (rx.mono e2) ry hk
        obtain ⟨v, rfl, g4⟩ := g2 z hz
        exact ⟨a, v, rfl, g1, After.ok q3 w2 v g4⟩
      · cases hz
    · cases hz⟩⟩
theorem ev_din (hu : X.A.units + 1 < cLine) (hi : EB X W ie mi) (ho : EB X W e m) (hm : behindInMarks .In e = false := by rfl) : EV X W (.Compare ie [.In] [e] pos) (eBin dDin mi m) := pe_weak (pe_cmp (pc_din hu hi ho) hm) fun σ H Q ⟨ρ, τ, A, F0, F, Z, w, s, q⟩ =>
  ⟨ρ, τ, A, F0, F, Z, w, s, After.next q fun d τ1 H1 Z1 w1 e1 q1 x rx => ⟨ρ, τ1, A, F0, F, Z1, w1, s.mono e1, After.next q1 fun c τ2 H2 Z2 w2 e2 q2 y ry => by
    obtain ⟨z, hz, q3⟩ := After.of q2
    unfold dDin at hz
    split at hz
    · rename_i t ks vs
      split at hz
      · rename_i hk
        cases hz
        obtain ⟨a, o, rfl, g1, g2, g3⟩ := dget_ok w2.zh w2.fh ry (rx.mono e2) hk
        exact ⟨a, o, rfl, g1, After.ok q3 w2 _ (by rw [← g3]; exact rep_bl.mpr rfl)⟩
      · cases hz
    · cases hz⟩⟩
theorem ev_dnotin (hu : X.A.units + 1 < cLine) (hi : EB X W ie mi) (ho : EB X W e m) (hm : behindInMarks .NotIn e = false := by rfl) : EV X W (.Compare ie [.NotIn] [e] pos) (eBin dDnotIn mi m) := pe_weak (pe_cmp (pc_dnotin hu hi ho) hm) fun σ H Q ⟨ρ, τ, A, F0, F, Z, w, s, q⟩ =>
  ⟨ρ, τ, A, F0, F, Z, w, s, After.next q fun d τ1 H1 Z1 w1 e1 q1 x rx => ⟨ρ, τ1, A, F0, F, Z1, w1, s.mono e1, After.next q1 fun c τ2 H2 Z2 w2 e2 q2 y ry => by
    obtain ⟨z, hz, q3⟩ := After.of q2
    unfold dDnotIn at hz
    split at hz
    · rename_i t ks vs
      split at hz
      · rename_i hk
        cases hz
        obtain ⟨a, o, rfl, g1, g2, g3⟩ := dget_ok w2.zh w2.fh ry (rx.mono e2) hk
        exact ⟨a, o, rfl, g1, After.ok q3 w2 _ (by rw [← g3]; exact rep_bl.mpr rfl)⟩
      · cases hz
    · cases hz⟩⟩
theorem et_din (hu : X.A.units + 1 < cLine) (hi : EB X W ie mi) (ho : EB X W e m) (hm : behindInMarks .In e = false := by rfl) : ET X W (.Compare ie [.In] [e] pos) (tOf (eBin dDin mi m)) := by
  have p := pt_cmp (pos := pos) (pc_din hu hi ho) hm
  refine pt_weak p fun σ H Q h => test_ok (t := tDIn (Hw.tB (jx X W) mi) (Hw.tB (jx X W) m)) (fun σ H Q ⟨ρ, τ, A, F0, F, Z, w, s, q⟩ => ⟨ρ, τ, A, F0, F, Z, w, s, After.next q fun d τ1 H1 Z1 w1 e1 q1 x rx => ⟨ρ, τ1, A, F0, F, Z1, w1, s.mono e1, After.next q1 fun c τ2 H2 Z2 w2 e2 q2 y ry => by
    obtain ⟨z, hz, q3⟩ := After.of q2
    unfold dDin at hz
    split at hz
    · rename_i t ks vs
      split at hz
      · rename_i hk
        cases hz
        obtain ⟨a, o, rfl, g1, g2, g3⟩ := dget_ok w2.zh w2.fh ry (rx.mono e2) hk
        exact ⟨a, o, rfl, g1, After.ok q3 w2 _ (by rw [← g3]; exact rep_bl.mpr rfl)⟩
      · cases hz
    · cases hz⟩⟩) σ H Q h
theorem et_dnotin (hu : X.A.units + 1 < cLine) (hi : EB X W ie mi) (ho : EB X W e m) (hm : behindInMarks .NotIn e = false := by rfl) : ET X W (.Compare ie [.NotIn] [e] pos) (tOf (eBin dDnotIn mi m)) := by
  have p := pt_cmp (pos := pos) (pc_dnotin hu hi ho) hm
  refine pt_weak p fun σ H Q h => test_ok (t := tDNotIn (Hw.tB (jx X W) mi) (Hw.tB (jx X W) m)) (fun σ H Q ⟨ρ, τ, A, F0, F, Z, w, s, q⟩ => ⟨ρ, τ, A, F0, F, Z, w, s, After.next q fun d τ1 H1 Z1 w1 e1 q1 x rx => ⟨ρ, τ1, A, F0, F, Z1, w1, s.mono e1, After.next q1 fun c τ2 H2 Z2 w2 e2 q2 y ry => by
    obtain ⟨z, hz, q3⟩ := After.of q2
    unfold dDnotIn at hz
    split at hz
    · rename_i t ks vs
      split at hz
      · rename_i hk
        cases hz
        obtain ⟨a, o, rfl, g1, g2, g3⟩ := dget_ok w2.zh w2.fh ry (rx.mono e2) hk
        exact ⟨a, o, rfl, g1, After.ok q3 w2 _ (by rw [← g3]; exact rep_bl.mpr rfl)⟩
      · cases hz
    · cases hz⟩⟩) σ H Q h
/-- {} -/
theorem ef_dnew (t : Bool) : EF X W (.Dict [] [] pos) (eC (.dct t [] [])) := by
  cases t with
  | false => exact pe_weak pe_dnewK fun σ H Q ⟨ρ, τ, A, F0, F, Z, w, s, q⟩ p hp => AfterF.ok q w hp ⟨[], .inl ⟨rfl, [], rfl, rfl, rfl⟩, Reps.nil⟩
  | true => exact pe_weak pe_dnewT fun σ H Q ⟨ρ, τ, A, F0, F, Z, w, s, q⟩ p hp => AfterF.ok q w hp ⟨[], .inr ⟨rfl, [], rfl, rfl, rfl⟩, Reps.nil⟩
/-- d[y] = e, d an own dict -/
def sDPut' (i : Nat) (ix : SE) (m : SE) : SS := fun ρ τ => (m ρ τ).andS ρ fun d τ1 => match getC i ρ τ1 with
  | none => .bad
  | some _ => (ix ρ τ1).andS ρ fun j τ2 => match getC i ρ τ2 with
    | some (.dct t ks vs) => if isKey t j = true ∧ ks.length < sizeLine ∧ ks.length = vs.length then .nx (setC i (putD t ks vs j d) ρ τ2).1 (setC i (putD t ks vs j d) ρ τ2).2 else .bad
    | _ => .bad
theorem dput_ok {i : Nat} : ∀ D σ H, tS (jx X W) r (sDPut' i mi m) D σ H → sDPut (tVar i) (Hw.tB (jx X W) mi) (tE (jx X W) m) D σ H := fun D σ H ⟨ρ, τ, A, F0, F, Z, w, s, q⟩ =>
  ⟨ρ, τ, A, F0, F, Z, w, s, After.andS q fun d τ1 H1 Z1 w1 e1 q1 v rv => by
    cases h0 : getC i ρ τ1 with
    | none => rw [h0] at q1; exact q1.elim
    | some c0 =>
      rw [h0] at q1
      dsimp only at q1
      obtain ⟨a, _, ha, _⟩ := cont_at w1 (s.mono e1) h0
      exact ⟨.ref a, ha, ρ, τ1, A, F0, F, Z1, w1, s.mono e1, After.andS q1 fun j τ2 H2 Z2 w2 e2 q2 y ry => by
        cases hc : getC i ρ τ2 with
        | none => rw [hc] at q2; exact q2.elim
        | some c =>
          rw [hc] at q2
          cases c with
          | dct t ks vs =>
            dsimp only at q2
            split at q2
            · rename_i hcond
              obtain ⟨hkey, hsz, hlen⟩ := hcond
              obtain ⟨a', o', g1, g2, g3, g4⟩ := cont_at w2 (s.mono (e1.trans e2)) hc
              rw [ha] at g1
              cases g1
              obtain ⟨us, g5, g6⟩ := g3
              have rv2 := rv.mono e2
              rcases g5 with ⟨rfl, kvs, rfl, rfl, rfl⟩ | ⟨rfl, kvs, rfl, rfl, rfl⟩
              · obtain ⟨κ, rfl, rfl⟩ := key1_of hkey ry
                have hk := fun a => keq1_key a κ
                obtain ⟨_, l2⟩ := look_ok (t := false) (f := keyD) (c := κ) hk g6
                have hO : OwnO (jx X W).k Z2 (putD false (kvs.map fun p => keyD p.1) vs (keyD κ) d) (.dK (putK kvs κ v)) := by
                  unfold putD putK
                  rw [l2, valV_any]
                  by_cases hh : (valV kvs κ).isSome = true
                  · rw [if_pos hh, if_pos hh]
                    exact ⟨_, .inl ⟨rfl, _, rfl, rfl, (put_keys keyD kvs).symm⟩, put_reps (t := false) (f := keyD) hk rv2 g6⟩
                  · rw [if_neg hh, if_neg hh]
                    refine ⟨(kvs ++ [(κ, v)]).map (·.2), .inl ⟨rfl, _, rfl, rfl, by rw [List.map_append]; rfl⟩, ?_⟩
                    rw [List.map_append]
                    exact g6.append (Reps.cons rv2 Reps.nil)
                obtain ⟨F', w3, s3⟩ := g4 _ _ hO
                rw [List.length_map] at hsz
                exact ⟨a, _, rfl, DPut.k g2 hsz, AfterS.next q2 w3 s3⟩
              · cases j with
                | tup ds =>
                  obtain ⟨b, ws, rfl, h5, h6⟩ := ry.tup w2.zh
                  obtain ⟨κs, rfl, rfl⟩ := keys_of hkey h6
                  have hk := fun a => keqL_key a κs
                  obtain ⟨_, l2⟩ := look_ok (t := true) (f := fun l : List Key => Hw.D.tup (l.map keyD)) (c := κs) hk g6
                  have hO : OwnO (jx X W).k Z2 (putD true (kvs.map fun p => Hw.D.tup (p.1.map keyD)) vs (.tup (κs.map keyD)) d) (.dT (putK kvs κs v)) := by
                    unfold putD putK
                    rw [l2, valV_any]
                    by_cases hh : (valV kvs κs).isSome = true
                    · rw [if_pos hh, if_pos hh]
                      exact ⟨_, .inr ⟨rfl, _, rfl, rfl, (put_keys (fun l : List Key => Hw.D.tup (l.map keyD)) kvs).symm⟩, put_reps (t := true) (f := fun l : List Key => Hw.D.tup (l.map keyD)) hk rv2 g6⟩
                    · rw [if_neg hh, if_neg hh]
                      refine ⟨(kvs ++ [(κs, v)]).map (·.2), .inr ⟨rfl, _, rfl, rfl, by rw [List.map_append]; rfl⟩, ?_⟩
                      rw [List.map_append]
                      exact g6.append (Reps.cons rv2 Reps.nil)
                  obtain ⟨F', w3, s3⟩ := g4 _ _ hO
                  rw [List.length_map] at hsz
                  exact ⟨a, _, rfl, DPut.t g2 h5 hsz, AfterS.next q2 w3 s3⟩
                | _ => cases hkey
            · exact q2.elim
          | _ => exact q2.elim⟩⟩
theorem es_dput (i : Nat) (hu : X.A.units + 1 < cLine) (he : EV X W e m) (hi : EB X W ie mi) (hN : X.N[i]? = some x := by rfl) (hv : Vis X.env.scope x := by first | exact Or.inl rfl | exact Or.inr (Or.inl rfl) | exact Or.inr (Or.inr rfl)) (hd : (x == ("__debug__" : Str)) = false := by decide)
    (hcd : (x == ("__classdict__" : Str)) = false := by decide) (hs : swapsWith e (some (.Subscript (.Name x p2) ie p3)) pos.line X.env = pure false := by rfl) : ES X W r (.Assign [.Subscript (.Name x p2) ie p3] e pos) (sDPut' i mi m) :=
  ps_weak (ps_dput hu (pe_var hN hv hd hcd) hi he hs) dput_ok
end
end Hw
/-! Hw, part 11: dead code, isinstance, chains, and/or as values, slices, pairs, enumerate, zip. -/
namespace Hw
open PySem PySem.Spec L2
variable [Tb]

/-! ### code that is never reached -/
def eBad : SE := fun _ _ => .bad
def tBad : ST := fun _ _ => .bad
def aBad : SA := fun _ _ => .bad
def sBad : SS := fun _ _ => .bad
def iBad : SI := fun _ _ => .bad
section
variable {X : Cx} {W : WX} {r : Bool} {e tg : Expr} {es : List Expr} {st : Stmt} {sts : List Stmt}
theorem ev_bad : EV X W e eBad := ⟨fun pins s σ H Q I ⟨ρ, τ, A, F0, F, Z, w, sl, q⟩ => q.elim⟩
theorem eb_bad : EB X W e eBad := ⟨fun pins s σ H Q I ⟨ρ, τ, A, F0, F, Z, w, sl, q⟩ => q.elim⟩
theorem ef_bad : EF X W e eBad := ⟨fun pins s σ H Q I ⟨ρ, τ, A, F0, F, Z, w, sl, q⟩ => q.elim⟩
theorem et_bad : ET X W e tBad := ⟨fun pins s σ H Q I ⟨ρ, τ, A, F0, F, Z, w, sl, q⟩ => q.elim⟩
theorem ew_bad : EW X W e tBad := ⟨fun wh pins s σ H Q I ⟨ρ, τ, A, F0, F, Z, w, sl, q⟩ => q.elim⟩
theorem es_bad : ES X W r st sBad := ⟨fun pins s σ H D I ⟨ρ, τ, A, F0, F, Z, w, sl, q⟩ => q.elim⟩
theorem el_bad : EL X W r sts sBad := ⟨fun pins s σ H D I ⟨ρ, τ, A, F0, F, Z, w, sl, q⟩ => q.elim⟩
theorem eiv_bad : EIV X W tg e iBad := ⟨fun pins s σ H R I ⟨ρ, τ, A, F0, F, Z, w, sl, q⟩ => q.elim⟩
end

/-! ### and, or as values -/
def eAnd (a b : SE) : SE := fun ρ τ => (a ρ τ).bind fun x τ1 => match x with
  | .bl true => b ρ τ1
  | .bl false => .ok (.bl false) τ1
  | _ => .bad
def eOr (a b : SE) : SE := fun ρ τ => (a ρ τ).bind fun x τ1 => match x with
  | .bl true => .ok (.bl true) τ1
  | .bl false => b ρ τ1
  | _ => .bad
section
variable {X : Cx} {W : WX} {a b : Expr} {rest : List Expr} {ma mb : SE} {pos : Pos}
theorem ev_one {op : BoolOp} (h : EV X W a ma) : EV X W (.BoolOp op [a] pos) ma := pe_one h
theorem ev_and (ha : EV X W a ma) (hb : EV X W (.BoolOp .And (b :: rest) pos) mb) : EV X W (.BoolOp .And (a :: b :: rest) pos) (eAnd ma mb) := pe_weak (pe_and ha hb) fun σ H Q ⟨ρ, τ, A, F0, F, Z, w, s, q⟩ =>
  ⟨ρ, τ, A, F0, F, Z, w, s, After.next q fun d τ1 H1 Z1 w1 e1 q1 v rv => by
    cases d with
    | bl x =>
      refine ⟨x, rep_bl.mp rv, ?_⟩
      cases x with
      | true => exact ⟨ρ, τ1, A, F0, F, Z1, w1, s.mono e1, q1⟩
      | false => exact After.ok q1 w1 _ (rep_bl.mpr rfl)
    | _ => exact q1.elim⟩
theorem ev_or (ha : EV X W a ma) (hb : EV X W (.BoolOp .Or (b :: rest) pos) mb) : EV X W (.BoolOp .Or (a :: b :: rest) pos) (eOr ma mb) := pe_weak (pe_or ha hb) fun σ H Q ⟨ρ, τ, A, F0, F, Z, w, s, q⟩ =>
  ⟨ρ, τ, A, F0, F, Z, w, s, After.next q fun d τ1 H1 Z1 w1 e1 q1 v rv => by
    cases d with
    | bl x =>
      refine ⟨x, rep_bl.mp rv, ?_⟩
      cases x with
      | false => exact ⟨ρ, τ1, A, F0, F, Z1, w1, s.mono e1, q1⟩
      | true => exact After.ok q1 w1 _ (rep_bl.mpr rfl)
    | _ => exact q1.elim⟩
/-- not, as a value -/
def eNot (a : SE) : SE := fun ρ τ => (a ρ τ).bind fun x τ1 => match x with
  | .bl b => .ok (.bl (!b)) τ1
  | _ => .bad
theorem ev_not (ha : EV X W a ma) : EV X W (.UnaryOp .Not a pos) (eNot ma) := pe_weak (pe_not ha) fun σ H Q ⟨ρ, τ, A, F0, F, Z, w, s, q⟩ =>
  ⟨ρ, τ, A, F0, F, Z, w, s, After.next q fun d τ1 H1 Z1 w1 e1 q1 v rv => by
    cases d with
    | bl x => exact ⟨x, rep_bl.mp rv, After.ok q1 w1 _ (rep_bl.mpr rfl)⟩
    | _ => exact q1.elim⟩
end

/-! ### a < b <= c -/
def eChain (f g : D → D → Option D) (a b c : SE) : SE := fun ρ τ => (a ρ τ).bind fun x τ1 => (b ρ τ1).bind fun y τ2 => (Out.of (f x y) τ2).bind fun z τ3 => match z with
  | .bl true => (c ρ τ3).bind fun u τ4 => .of (g y u) τ4
  | .bl false => .ok (.bl false) τ3
  | _ => .bad
/-- the answer of an operator is a bool -/
def BlO (f : D → D → Option D) : Prop := ∀ x y z, f x y = some z → ∃ b, z = .bl b
theorem blo_cmp {p : Int → Int → Bool} : BlO (dCmp p) := fun x y z h => by
  unfold dCmp at h
  split at h
  · cases h; exact ⟨_, rfl⟩
  · cases h
section
variable {X : Cx} {W : WX} {a b c : Expr} {ma mb mc : SE} {pos : Pos} {f g : D → D → Option D} {rf rg : R2} {op op' : CmpOp}
theorem chain_ok (bf : BlO f) (hf : OpD ⟨X.K, X.mg⟩ rf f) (hg : OpD ⟨X.K, X.mg⟩ rg g) : ∀ σ H Q, tE (jx X W) (eChain f g ma mb mc) σ H Q → tChain rf rg (tB (jx X W) ma) (tB (jx X W) mb) (tB (jx X W) mc) σ H Q := fun σ H Q ⟨ρ, τ, A, F0, F, Z, w, s, q⟩ =>
  ⟨ρ, τ, A, F0, F, Z, w, s, After.next q fun d τ1 H1 Z1 w1 e1 q1 x rx => ⟨ρ, τ1, A, F0, F, Z1, w1, s.mono e1, After.next q1 fun e τ2 H2 Z2 w2 e2 q2 y ry => by
    cases hz : f d e with
    | none => rw [hz] at q2; exact q2.elim
    | some z =>
      obtain ⟨b, rfl⟩ := bf d e z hz
      rw [hz] at q2
      have key : ∀ (Q' : VK), (∀ v, Rep (jx X W).k Z2 (.bl b) v → Q' v H2) → NewQ (jx X W).k Z2 H2 (.bl b) Q' := fun Q' h => ⟨h, fun p o _ _ _ r => by cases rep_bl.mp r⟩
      refine hf w2.zh w2.fh (rx.mono e2) ry hz (key _ fun v rv => ⟨b, rep_bl.mp rv, ?_⟩)
      cases b with
      | false => exact After.ok q2 w2 _ (rep_bl.mpr rfl)
      | true =>
        refine ⟨ρ, τ2, A, F0, F, Z2, w2, s.mono (e1.trans e2), ?_⟩
        have q2 : After (jx X W) A F0 F ρ σ Z2 ((mc ρ τ2).bind fun u τ4 => .of (g e u) τ4) fun d _ H' Z' => ∀ v, Rep (jx X W).k Z' d v → Q v H' := q2
        exact After.next q2 fun u τ3 H3 Z3 w3 e3 q3 v3 r3 => by
          obtain ⟨z', hz', q4⟩ := After.of q3
          exact hg w3.zh w3.fh (ry.mono e3) r3 hz' (After.newQ q4 w3)⟩⟩
theorem ev_chain (ho : OpR X (compareOp op) rf) (ho' : OpR X (compareOp op') rg) (bf : BlO f) (hf : OpD ⟨X.K, X.mg⟩ rf f) (hg : OpD ⟨X.K, X.mg⟩ rg g) (ha : EB X W a ma) (hb : EB X W b mb) (hc : EB X W c mc) (hm : lastMarks [op, op'] [b, c] = false := by with_unfolding_all rfl) :
    EV X W (.Compare a [op, op'] [b, c] pos) (eChain f g ma mb mc) := pe_weak (pe_chain ho ho' ha hb hc hm) (chain_ok bf hf hg)
theorem et_chain (ho : OpR X (compareOp op) rf) (ho' : OpR X (compareOp op') rg) (bf : BlO f) (hf : OpD ⟨X.K, X.mg⟩ rf f) (hg : OpD ⟨X.K, X.mg⟩ rg g) (ha : EB X W a ma) (hb : EB X W b mb) (hc : EB X W c mc) (hm : lastMarks [op, op'] [b, c] = false := by with_unfolding_all rfl) :
    ET X W (.Compare a [op, op'] [b, c] pos) (tOf (eChain f g ma mb mc)) := pt_weak (pt_chain ho ho' ha hb hc hm) (test_ok (chain_ok bf hf hg))
end

/-! ### slices -/
abbrev SO := Rho → Tau → Out (Option Int)
def oNo : SO := fun _ τ => .ok none τ
def oSo (m : SE) : SO := fun ρ τ => (m ρ τ).bind fun d τ1 => match d with
  | .int i => .ok (some i) τ1
  | _ => .bad
def tO (c : Jx) (m : SO) : TO := fun σ H Q => ∃ ρ τ A F0 F Z, Wd c.k A F τ H Z ∧ Sl c.k A F0 F ρ σ Z ∧ After c A F0 F ρ σ Z (m ρ τ) fun i _ H' _ => Q i H'
abbrev EO (X : Cx) (W : WX) (e : Option Expr) (m : SO) : Prop := PO X e (tO (jx X W) m)
def cutD {α : Type} (ds : List α) (lo hi : Option Int) : List α := (ds.drop (HT.sIx ds.length 0 lo)).take (HT.sIx ds.length ds.length hi - HT.sIx ds.length 0 lo)
def dSl (d : D) (lo hi : Option Int) : Option D := match d with
  | .lst ds => some (.lst (cutD ds lo hi))
  | .scr ns => some (.lst ((cutD ns lo hi).map .int))
  | .tup ds => some (.tup (cutD ds lo hi))
  | .str z => if z.length ≤ sizeLine then some (.str (cutS z lo hi)) else none
  | _ => none
/-- a list's slice alone -/
def dSlL (d : D) (lo hi : Option Int) : Option D := match d with
  | .lst ds => some (.lst (cutD ds lo hi))
  | .scr ns => some (.lst ((cutD ns lo hi).map .int))
  | _ => none
def eSl (f : D → Option Int → Option Int → Option D) (m : SE) (ml mh : SO) : SE := fun ρ τ => (m ρ τ).bind fun d τ1 => (ml ρ τ1).bind fun l τ2 => (mh ρ τ2).bind fun h τ3 => .of (f d l h) τ3
theorem cut_reps {k : Kx} {Z : Hp} {ds : List D} {vs : List V} {lo hi : Option Int} (h : Reps k Z ds vs) : Reps k Z (cutD ds lo hi) (cutV vs lo hi) := by
  unfold cutD cutV
  rw [h.length]
  exact (h.drop _).take _
theorem cut_map {α : Type} {f : α → V} (xs : List α) (lo hi : Option Int) : cutV (xs.map f) lo hi = (cutD xs lo hi).map f := by
  unfold cutV cutD
  rw [List.length_map, ← List.map_drop, ← List.map_take]
theorem cut_whole {α : Type} {ds : List α} {lo hi : Option Int} (h : HT.sIx ds.length 0 lo = 0 ∧ HT.sIx ds.length ds.length hi = ds.length) : cutD ds lo hi = ds := by
  unfold cutD
  rw [h.1, h.2, List.drop_zero, Nat.sub_zero, List.take_length]
abbrev RSl := V → Option Int → Option Int → Hp → VK → Prop
def rSlAll (K : PySem.W.Frag) : RSl := fun x lo hi H Q => rSlL K x lo hi H Q ∨ rSlA K x lo hi H Q ∨ rSlS x lo hi H Q
section
variable {X : Cx} {W : WX} {e : Expr} {lo hi : Option Expr} {m : SE} {ml mh : SO} {pos p2 : Pos}
theorem sl_all : SlR X (rSlAll X.K) := SlR.or sl_list (SlR.or sl_tupA sl_str)
theorem eo_no : EO X W none oNo := ⟨fun pins s σ H Q I ⟨ρ, τ, A, F0, F, Z, w, sl, q⟩ => po_none.run pins s σ H Q I (After.ok q w)⟩
theorem eo_so {e : Expr} (h : EV X W e m) : EO X W (some e) (oSo m) := ⟨fun pins s σ H Q I ⟨ρ, τ, A, F0, F, Z, w, sl, q⟩ => (po_some h).run pins s σ H Q I ⟨ρ, τ, A, F0, F, Z, w, sl, After.next q fun d τ1 H1 Z1 w1 e1 q1 v rv => by
  cases d with
  | int i => exact ⟨i, rep_int.mp rv, After.ok q1 w1⟩
  | _ => exact q1.elim⟩⟩
theorem slL_ok {k : Kx} {F Z H : Hp} {d z : D} {v : V} {l h : Option Int} {Q : VK} (eZ : Same Z H) (eF : Same F H) (rv : RepB k F Z d v) (hd : dSlL d l h = some z) (q : FrQ k Z H z Q) : rSlL k.K v l h H Q := by
  unfold dSlL at hd
  split at hd
  · rename_i ds
    cases hd
    obtain ⟨a, vs, h1, h2, h3⟩ := rv.lst eZ eF
    exact ⟨a, vs, h1, SqL.of h2, fun p hp => q p _ hp ⟨_, rfl, cut_reps h3⟩⟩
  · rename_i ns
    cases hd
    obtain ⟨a, h1, h2⟩ := rv.scr eZ
    exact ⟨a, _, h1, h2, fun p hp => q p _ hp ⟨_, rfl, by rw [cut_map]; exact reps_ints _⟩⟩
  · cases hd
theorem sl_ok {k : Kx} {F Z H : Hp} {d z : D} {v : V} {l h : Option Int} {Q : VK} (eZ : Same Z H) (eF : Same F H) (rv : RepB k F Z d v) (hd : dSl d l h = some z) (q : NewQ k Z H z Q) : rSlAll k.K v l h H Q := by
  unfold dSl at hd
  split at hd
  · exact .inl (slL_ok eZ eF rv hd (FrQ.of_new eZ q))
  · exact .inl (slL_ok eZ eF rv hd (FrQ.of_new eZ q))
  · rename_i ds
    cases hd
    refine .inr (.inl ?_)
    rcases rv with rv | ⟨_, _, _, _, z⟩
    · obtain ⟨a, vs, h1, h2, h3⟩ := rep_tup.mp rv
      refine ⟨a, vs, h1, SqT.of (eZ _ _ h2), fun hw => ?_, fun hw p hp => q.tup (cut_reps h3) hp eZ⟩
      rw [← h3.length] at hw
      rw [cut_whole hw] at q
      exact q.1 _ (by rw [← h1]; exact rv)
    · exact z.elim
  · rename_i z
    split at hd
    · rename_i hl
      cases hd
      exact .inr (.inr ⟨z, rv.str, hl, q.str⟩)
    · cases hd
  · cases hd
theorem ev_sl (he : EB X W e m) (hl : EO X W lo ml) (hh : EO X W hi mh) : EV X W (.Subscript e (.Slice lo hi none p2) pos) (eSl dSl m ml mh) := pe_weak (pe_slice sl_all he hl hh) fun σ H Q ⟨ρ, τ, A, F0, F, Z, w, s, q⟩ =>
  ⟨ρ, τ, A, F0, F, Z, w, s, After.next q fun d τ1 H1 Z1 w1 e1 q1 x rx => ⟨ρ, τ1, A, F0, F, Z1, w1, s.mono e1, After.next q1 fun l τ2 H2 Z2 w2 e2 q2 => ⟨ρ, τ2, A, F0, F, Z2, w2, s.mono (e1.trans e2), After.next q2 fun h τ3 H3 Z3 w3 e3 q3 => by
    obtain ⟨z, hz, q4⟩ := After.of q3
    exact sl_ok w3.zh w3.fh (rx.mono (e2.trans e3)) hz (After.newQ q4 w3)⟩⟩⟩
theorem ef_sl (he : EB X W e m) (hl : EO X W lo ml) (hh : EO X W hi mh) : EF X W (.Subscript e (.Slice lo hi none p2) pos) (eSl dSlL m ml mh) := pe_weak (pe_slice sl_list he hl hh) fun σ H Q ⟨ρ, τ, A, F0, F, Z, w, s, q⟩ =>
  ⟨ρ, τ, A, F0, F, Z, w, s, AfterF.next q fun d τ1 H1 Z1 w1 e1 q1 x rx => ⟨ρ, τ1, A, F0, F, Z1, w1, s.mono e1, AfterF.next q1 fun l τ2 H2 Z2 w2 e2 q2 => ⟨ρ, τ2, A, F0, F, Z2, w2, s.mono (e1.trans e2), AfterF.next q2 fun h τ3 H3 Z3 w3 e3 q3 => by
    obtain ⟨z, hz, q4⟩ := AfterF.of q3
    exact slL_ok w3.zh w3.fh (rx.mono (e2.trans e3)) hz fun p o hp ho => AfterF.ok q4 w3 hp ho⟩⟩⟩
end

/-! ### isinstance(x, T), T a built-in class -/
def tyN : D → Option String
  | .non => some "NoneType" | .bl _ => some "bool" | .int _ => some "int" | .str _ => some "str"
  | .lst _ => some "list" | .scr _ => some "list" | .tup _ => some "tuple" | .ctup _ => some "tuple" | .dct _ _ _ => some "dict"
  | _ => none
def isiD (T : String) (d : D) : Option D := (tyN d).bind fun t => (kitB t T).map .bl
theorem ty_of {k : Kx} {F Z H : Hp} {d : D} {v : V} {t : String} (eZ : Same Z H) (eF : Same F H) (rv : RepB k F Z d v) (h : tyN d = some t) : TyX k.K H v (.type t) := by
  cases d with
  | non => cases h; rw [rv.non]; exact .base .non
  | bl b => cases h; rw [rv.bl]; exact .base (.bl b)
  | int i => cases h; rw [rv.int]; exact .base (.int i)
  | str x => cases h; rw [rv.str]; exact .base (.str x)
  | lst ds =>
    cases h
    obtain ⟨a, vs, rfl, h2, _⟩ := rv.lst eZ eF
    exact .base (.lst h2)
  | scr ns =>
    cases h
    obtain ⟨a, rfl, h2⟩ := rv.scr eZ
    rcases h2 with (h2 | ⟨o, h2⟩) | ⟨o, its, n, h2, h3, _⟩
    · exact .base (.lst h2)
    · exact .base (.frz h2)
    · exact .kList h2 h3
  | tup ds =>
    cases h
    obtain ⟨a, vs, rfl, h2, _⟩ := rv.tup eZ
    exact .base (.tup h2)
  | ctup vs =>
    cases h
    obtain ⟨a, rfl, h2⟩ := rv.ctup eZ
    rcases h2 with (h2 | ⟨o, h2⟩) | ⟨o, its, n, h2, h3, _⟩
    · exact .base (.tup h2)
    · exact .fTuple h2
    · exact .kTuple h2 h3
  | dct t ks ds =>
    cases h
    obtain ⟨a, o, vs, rfl, h2, h3, _⟩ := rv.dct eZ eF
    rcases h3 with ⟨_, kvs, rfl, _⟩ | ⟨_, kvs, rfl, _⟩
    · exact .base (.dK h2)
    · exact .base (.dT h2)
  | ins _ _ _ => cases h
section
variable {X : Cx} {W : WX} {e : Expr} {m : SE} {p p2 pos : Pos} {T : String} {x : Str}
theorem isi_ok : ∀ σ H Q, tE (jx X W) (eUn (isiD T) m) σ H Q → tCB (rIsi X.K) (tCons (tB (jx X W) m) (tCons (tC (.ty T)) tNil)) σ H Q := fun σ H Q ⟨ρ, τ, A, F0, F, Z, w, s, q⟩ =>
  ⟨ρ, τ, A, F0, F, Z, w, s, After.next q fun d τ1 H1 Z1 w1 e1 q1 v rv => by
    obtain ⟨z, hz, q2⟩ := After.of q1
    unfold isiD at hz
    obtain ⟨t, h1, h2⟩ := Option.bind_eq_some_iff.mp hz
    obtain ⟨b, h3, rfl⟩ := Option.map_eq_some_iff.mp h2
    exact ⟨v, .ty T, .type t, .type T, b, rfl, .ty T, ty_of w1.zh w1.fh rv h1, kit_ty h3, After.ok q2 w1 _ (rep_bl.mpr rfl)⟩⟩
theorem ev_isi (T : String) (hg : Gl X "isinstance") (hm : X.mg "isinstance" = none) (hg2 : Gl X x) (hm2 : X.mg x = none) (hv2 : bootBuiltins x = some (.type T)) (he : EB X W e m) (hn2 : x ≠ "__name__" := by decide) (hd2 : (x == ("__debug__" : Str)) = false := by decide)
    (hs1 : starEach [e, .Name x p2] X.env = (false, eval e X.env) :: starEach [.Name x p2] X.env := by rfl) (hs2 : starEach [.Name x p2] X.env = (false, eval (.Name x p2) X.env) :: starEach [] X.env := by rfl) (hpl : (backTo pos (starEach [.Name x p2] X.env)).any (·.1) = false := by rfl) :
    EV X W (.Call (.Name "isinstance" p) [e, .Name x p2] [] pos) (eUn (isiD T) m) :=
  pe_weak (pe_callB call_isi hg hm rfl (pa_cons he (pa_cons (pe_bltn (v := .ty T) hg2 hm2 hv2 rfl hn2 hd2) pa_nil hs2) hs1) (by decide) (by decide) hs1 hpl) isi_ok
end

/-! ### a, b = x, y -/
def sPar (i j : Nat) (a b : SE) : SS := fun ρ τ => (a ρ τ).andS ρ fun x τ1 => (b ρ τ1).andS ρ fun y τ2 => .nx ((ρ.set i (.fz x)).set j (.fz y)) τ2
section
variable {X : Cx} {W : WX} {r : Bool} {a b : Expr} {ma mb : SE} {x y : Str} {px py pt pt2 pos : Pos}
theorem es_par (i j : Nat) {kt k2 : Nat} (ha : EV X W a ma) (hb : EV X W b mb) (hx : X.env.scope.names.lookup x = some .local := by rfl) (hy : X.env.scope.names.lookup y = some .local := by rfl) (hN : X.N.Nodup := by assumption) (hi : X.N[i]? = some x := by rfl) (hj : X.N[j]? = some y := by rfl) (hij : i ≠ j := by decide) (hc : X.calm = true := by rfl)
    (hw : swappedStores [.Tuple [.Name x px, .Name y py] kt pt] (.Tuple [a, b] k2 pt2) X.env = pure (some [x, y]) := by rfl)
    (hs : swapsWithSole [.Tuple [.Name x px, .Name y py] kt pt] (.Tuple [a, b] k2 pt2) pos.line X.env = pure false := by rfl)
    (hs1 : starEach [a, b] X.env = (false, eval a X.env) :: starEach [b] X.env := by rfl) (hs2 : starEach [b] X.env = (false, eval b X.env) :: starEach [] X.env := by rfl) :
    ES X W r (.Assign [.Tuple [.Name x px, .Name y py] kt pt] (.Tuple [a, b] k2 pt2) pos) (sPar i j ma mb) :=
  ps_weak (ps_par hc hN hi hj hij hx hy (pa_cons ha (pa_cons hb pa_nil hs2) hs1) hw hs) fun D σ H ⟨ρ, τ, A, F0, F, Z, w, s, q⟩ =>
    ⟨ρ, τ, A, F0, F, Z, w, s, After.andS q fun d τ1 H1 Z1 w1 e1 q1 v rv => ⟨ρ, τ1, A, F0, F, Z1, w1, s.mono e1, After.andS q1 fun e τ2 H2 Z2 w2 e2 q2 u ru =>
      ⟨v, u, rfl, AfterS.next q2 w2 (((s.mono (e1.trans e2)).setFz (rv.mono e2)).setFz ru)⟩⟩⟩
end

/-! ### enumerate(list), zip(list, list) -/
def iEn (m : SE) : SI := fun ρ τ => (m ρ τ).bind fun d τ1 => match d with
  | .lst ds => .ok (ds.zipIdx.map fun p => .tup [.int p.2, p.1]) τ1
  | _ => .bad
def iZp (a b : SE) : SI := fun ρ τ => (a ρ τ).bind fun x τ1 => (b ρ τ1).bind fun y τ2 => match x, y with
  | .lst ds, .lst es => .ok ((ds.zip es).map fun p => .tup [p.1, p.2]) τ2
  | _, _ => .bad
theorem it_enum {k : Kx} {F Z : Hp} {a : Addr} {vs : List V} {ds : List D} (h : ∀ H, Same Z H → Same F H → SqL k.K H a vs) (r : Reps k Z ds vs) : ItOk k F Z (Ite k.K a) (ds.zipIdx.map fun p => .tup [.int p.2, p.1]) where
  go := fun i H e f hi => by
    have hi : i < vs.length := by simpa [r.length] using hi
    exact ⟨vs, vs[i], h H e f, List.getElem?_eq_getElem _⟩
  stop := fun i H e f hi => ⟨vs, h H e f, by simpa [r.length] using hi⟩
  yld := fun i H H' x d e f hd y => by
    obtain ⟨T, v, rfl, hT, rfl, hx⟩ := y
    rw [List.getElem?_map] at hd
    obtain ⟨p, h1, h2⟩ := Option.map_eq_some_iff.mp hd
    rw [List.getElem?_zipIdx] at h1
    obtain ⟨d', h3, h4⟩ := Option.map_eq_some_iff.mp h1
    subst h4 h2
    obtain ⟨u, g1, g2⟩ := r.get h3
    have := hx vs (h _ e f)
    rw [g1] at this
    cases this
    have zT := none_of_same e hT
    refine .inr ⟨T, _, rfl, hT, rfl, rep_tup.mpr ⟨T, _, rfl, upd_same, Reps.cons (rep_int.mpr ?_) (Reps.cons (g2.mono (same_new zT)) Reps.nil)⟩⟩
    simp
theorem it_zip {k : Kx} {F Z : Hp} {a b : Addr} {vs us : List V} {ds es : List D} (h : ∀ H, Same Z H → Same F H → SqL k.K H a vs ∧ SqL k.K H b us) (r : Reps k Z ds vs) (r' : Reps k Z es us) : ItOk k F Z (Itz k.K a b) ((ds.zip es).map fun p => .tup [p.1, p.2]) where
  go := fun i H e f hi => by
    have hi : i < vs.length ∧ i < us.length := by
      have : i < (ds.zip es).length := by simpa using hi
      rw [List.length_zip, r.length, r'.length] at this
      omega
    exact ⟨vs, us, vs[i]'hi.1, us[i]'hi.2, (h H e f).1, (h H e f).2, List.getElem?_eq_getElem _, List.getElem?_eq_getElem _⟩
  stop := fun i H e f hi => ⟨vs, us, (h H e f).1, (h H e f).2, by
    have : (ds.zip es).length ≤ i := by simpa using hi
    rw [List.length_zip, r.length, r'.length] at this
    omega⟩
  yld := fun i H H' x d e f hd y => by
    obtain ⟨T, v, u, rfl, hT, rfl, hx, hy⟩ := y
    rw [List.getElem?_map] at hd
    obtain ⟨p, h1, h2⟩ := Option.map_eq_some_iff.mp hd
    subst h2
    obtain ⟨h3, h4⟩ := List.getElem?_zip_eq_some.mp h1
    obtain ⟨v', g1, g2⟩ := r.get h3
    obtain ⟨u', g3, g4⟩ := r'.get h4
    have e1 := hx vs (h _ e f).1
    have e2 := hy us (h _ e f).2
    rw [g1] at e1
    rw [g3] at e2
    cases e1
    cases e2
    have zT := none_of_same e hT
    exact .inr ⟨T, _, rfl, hT, rfl, rep_tup.mpr ⟨T, _, rfl, upd_same, Reps.cons (g2.mono (same_new zT)) (Reps.cons (g4.mono (same_new zT)) Reps.nil)⟩⟩
section
variable {X : Cx} {W : WX} {e e2 : Expr} {elts : List Expr} {m m2 : SE} {p pos tpos : Pos} {kk : Nat}
theorem eiv_enum (hg : Gl X "enumerate") (hm : X.mg "enumerate" = none) (he : EV X W e m) (hs : starEach [e] X.env = [(false, eval e X.env)] := by rfl) : EIV X W (.Tuple elts kk tpos) (.Call (.Name "enumerate" p) [e] [] pos) (iEn m) :=
  pi_weak (pi_enum hg hm (pa_cons he pa_nil hs) hs) fun σ H R ⟨ρ, τ, A, F0, F, Z, w, s, q⟩ => ⟨ρ, τ, A, F0, F, Z, w, s, After.next q fun d τ1 H1 Z1 w1 e1 q1 v rv => by
    cases d with
    | lst ds =>
      obtain ⟨a, vs, rfl, h2, h3⟩ := rep_lst.mp rv
      exact ⟨a, vs, rfl, SqL.of (w1.zh _ _ h2), After.ok q1 w1 _ (it_enum (fun H e _ => SqL.of (e _ _ h2)) h3)⟩
    | _ => exact q1.elim⟩
theorem eib_enum (hg : Gl X "enumerate") (hm : X.mg "enumerate" = none) (he : EB X W e m) (hs : starEach [e] X.env = [(false, eval e X.env)] := by rfl) : EIB X W (.Tuple elts kk tpos) (.Call (.Name "enumerate" p) [e] [] pos) (iEn m) :=
  pi_weak (pi_enum hg hm (pa_cons he pa_nil hs) hs) fun σ H R ⟨ρ, τ, A, F0, F, Z, w, s, q⟩ => ⟨ρ, τ, A, F0, F, Z, w, s, After.next q fun d τ1 H1 Z1 w1 e1 q1 v rv => by
    cases d with
    | lst ds =>
      rcases rv with rv | ⟨a, o, rfl, h2, h3⟩
      · obtain ⟨a, vs, rfl, h2, h3⟩ := rep_lst.mp rv
        exact ⟨a, vs, rfl, SqL.of (w1.zh _ _ h2), After.ok q1 w1 _ (it_enum (fun H e _ => SqL.of (e _ _ h2)) h3)⟩
      · obtain ⟨vs, rfl, h4⟩ := h3
        exact ⟨a, vs, rfl, SqL.of (w1.fh _ _ h2), After.ok q1 w1 _ (it_enum (fun H _ f => SqL.of (f _ _ h2)) h4)⟩
    | _ => exact q1.elim⟩
theorem eiv_zip (hg : Gl X "zip") (hm : X.mg "zip" = none) (he : EV X W e m) (he2 : EV X W e2 m2) (hs : starEach [e, e2] X.env = (false, eval e X.env) :: starEach [e2] X.env := by rfl) (hs2 : starEach [e2] X.env = (false, eval e2 X.env) :: starEach [] X.env := by rfl) (hpl : (backTo pos (starEach [e2] X.env)).any (·.1) = false := by rfl) :
    EIV X W (.Tuple elts kk tpos) (.Call (.Name "zip" p) [e, e2] [] pos) (iZp m m2) :=
  pi_weak (pi_zip hg hm (pa_cons he (pa_cons he2 pa_nil hs2) hs) hs hpl) fun σ H R ⟨ρ, τ, A, F0, F, Z, w, s, q⟩ => ⟨ρ, τ, A, F0, F, Z, w, s, After.next q fun d τ1 H1 Z1 w1 e1 q1 v rv => ⟨ρ, τ1, A, F0, F, Z1, w1, s.mono e1, After.next q1 fun d2 τ2 H2 Z2 w2 e2 q2 u ru => by
    cases d with
    | lst ds =>
      cases d2 with
      | lst es =>
        obtain ⟨a, vs, rfl, h2, h3⟩ := rep_lst.mp rv
        obtain ⟨b, us, rfl, h4, h5⟩ := rep_lst.mp ru
        have h2' := e2 _ _ h2
        exact ⟨a, b, vs, us, rfl, SqL.of (w2.zh _ _ h2'), SqL.of (w2.zh _ _ h4), After.ok q2 w2 _ (it_zip (fun H e _ => ⟨SqL.of (e _ _ h2'), SqL.of (e _ _ h4)⟩) (h3.mono e2) h5)⟩
      | _ => exact q2.elim
    | _ => exact q2.elim⟩⟩
end
end Hw
set_option maxHeartbeats 1000000
/-! Hw, part 12: try with many clauses 'except (A, B) as e'. -/
namespace Hw
open PySem PySem.Spec L2
open HandSPX (FlyingZ)
open PyProof.Rows

/-- more objects: what flies goes on -/
theorem fly_grow {B : Heap} {l : List Env} {a : Addr} {Z : Obj → Prop} {h g : Heap} (f : FlyingZ B l a Z h) (k : ∀ q o, h.get? q = some o → g.get? q = some o) : FlyingZ B l a Z g := by
  obtain ⟨f1, f2, f3, oe, vs, T, oT, ts, t1, t2, t3, t4, t5, t6, t7, t8, t9⟩ := f
  exact ⟨fun q o e => k q o (f1 q o e), f2, f3.of_keeps fun q o e _ => ⟨o, k q o e, rfl⟩, oe, vs, T, oT, ts, k _ _ t1, t2, t3, t4, t5, t6, k _ _ t7, t8, t9⟩
theorem up_grow {h g j : Heap} (u : h.UpToSlots g) (k : ∀ q o, g.get? q = some o → j.get? q = some o) : h.UpToSlots j := u.trans (Heap.UpToSlots.of_keeps k)

/-- the class of what was caught is asked: the expression te names the classes cs -/
def AsksFor (X : Cx) (te : Expr) (cs : List Value) : Prop := ∀ (a : Addr) (oe : Obj) (pn pins : List (Addr × Obj)) (s : Shared) (σ : L2.St) (H : Hp) (b : Bool) (Q : Bool → Shared → Prop) (E : Value → Shared → Prop),
  Inv (X.suite a ((a, oe) :: pn)) pins σ H s → s.heap.get? a = some oe → PySem.W.exmAny X.K oe.cls cs = some b → (∀ h', (∀ q o, s.heap.get? q = some o → h'.get? q = some o) → Q b { s with heap := h' }) →
    wpAny (model X.prog X.w) (X.A.mark (some (.ref a))) (eval te X.env) (fun c s₁ => wpAny (model X.prog X.w) (X.A.mark (some (.ref a))) (excMatches (.ref a) c) Q E s₁) E s
/-- a class of the module -/
abbrev ModC (X : Cx) (x : Str) (c : Value) : Prop := Gl X x ∧ (x == ("__debug__" : Str)) = false ∧ X.mg x = some c
section
variable {X : Cx} {x1 x2 x3 x4 : Str} {c1 c2 c3 c4 : Value} {p1 p2 p3 p4 tp : Pos} {kk : Nat}
theorem looks_cls {M : Model} {a : Addr} {oe : Obj} {h : Heap} (e : h.get? a = some oe) : PySem.W.Looks M h (typeOf (.ref a)) oe.cls := fun A Q E s k q => wpAny_typeOf_ref (k _ _ e) q
theorem modc_ld {a : Addr} {oe : Obj} {pn pins : List (Addr × Obj)} {s : Shared} {σ : L2.St} {H : Hp} {Q : Value → Shared → Prop} {E : Value → Shared → Prop} (n : ModC X x1 c1) (I : Inv (X.suite a ((a, oe) :: pn)) pins σ H s) (q : Q c1 s) :
    wpAny (model X.prog X.w) (X.A.mark (some (.ref a))) (eval (.Name x1 p1) X.env) Q E s := ld_glob (X := X.suite a ((a, oe) :: pn)) I n.1 n.2.2 q n.2.1
theorem asks1 (n : ModC X x1 c1) : AsksFor X (.Name x1 p1) [c1] := fun a oe pn pins s σ H b Q E I e hb q => by
  obtain ⟨b1, d1, g1, g2, rfl⟩ := PySem.W.exmAny_cons hb
  cases g2
  rw [Bool.or_false] at q
  exact modc_ld n I ((PySem.W.exm_one (M := model X.prog X.w) I.kIn (looks_cls e) g1).here (q s.heap fun _ _ z => z))
theorem asks2 (n1 : ModC X x1 c1) (n2 : ModC X x2 c2) : AsksFor X (.Tuple [.Name x1 p1, .Name x2 p2] kk tp) [c1, c2] := fun a oe pn pins s σ H b Q E I e hb q => by
  refine wpAny_Tuple (wpAny_items_cons (modc_ld n1 I (wpAny_items_cons (modc_ld n2 I (wpAny_items_nil ⟨by show 2 ≤ sizeLine; decide, ?_⟩)))))
  have kp : ∀ q o, s.heap.get? q = some o → (s.heap.push { cls := .type "tuple", data := .seq [c1, c2].toArray }).get? q = some o := fun _ _ z => Heap.get?_push_of_some _ z
  exact (PySem.W.exm_tup2 (M := model X.prog X.w) (fun q o z => kp q o (I.kIn q o z)) (looks_cls (kp _ _ e)) (Heap.get?_push_size s.heap rfl) hb).here (q _ kp)
theorem asks3 (n1 : ModC X x1 c1) (n2 : ModC X x2 c2) (n3 : ModC X x3 c3) : AsksFor X (.Tuple [.Name x1 p1, .Name x2 p2, .Name x3 p3] kk tp) [c1, c2, c3] := fun a oe pn pins s σ H b Q E I e hb q => by
  refine wpAny_Tuple (wpAny_items_cons (modc_ld n1 I (wpAny_items_cons (modc_ld n2 I (wpAny_items_cons (modc_ld n3 I (wpAny_items_nil ⟨by show 3 ≤ sizeLine; decide, ?_⟩)))))))
  have kp : ∀ q o, s.heap.get? q = some o → (s.heap.push { cls := .type "tuple", data := .seq [c1, c2, c3].toArray }).get? q = some o := fun _ _ z => Heap.get?_push_of_some _ z
  exact (PySem.W.exm_tup3 (M := model X.prog X.w) (fun q o z => kp q o (I.kIn q o z)) (looks_cls (kp _ _ e)) (Heap.get?_push_size s.heap rfl) hb).here (q _ kp)
theorem asks4 (n1 : ModC X x1 c1) (n2 : ModC X x2 c2) (n3 : ModC X x3 c3) (n4 : ModC X x4 c4) : AsksFor X (.Tuple [.Name x1 p1, .Name x2 p2, .Name x3 p3, .Name x4 p4] kk tp) [c1, c2, c3, c4] := fun a oe pn pins s σ H b Q E I e hb q => by
  refine wpAny_Tuple (wpAny_items_cons (modc_ld n1 I (wpAny_items_cons (modc_ld n2 I (wpAny_items_cons (modc_ld n3 I (wpAny_items_cons (modc_ld n4 I (wpAny_items_nil ⟨by show 4 ≤ sizeLine; decide, ?_⟩)))))))))
  have kp : ∀ q o, s.heap.get? q = some o → (s.heap.push { cls := .type "tuple", data := .seq [c1, c2, c3, c4].toArray }).get? q = some o := fun _ _ z => Heap.get?_push_of_some _ z
  exact (PySem.W.exm_tup4 (M := model X.prog X.w) (fun q o z => kp q o (I.kIn q o z)) (looks_cls (kp _ _ e)) (Heap.get?_push_size s.heap rfl) hb).here (q _ kp)
end

abbrev Sui := Addr → Value → Option Addr → TS
/-- behind a suite the name is gone -/
def gone (i : Nat) (D : Ends) : Ends := { nx := fun σ H => D.nx (σ.set i none) H, rt := D.rt, bk := fun σ H => D.bk (σ.set i none) H, ct := fun σ H => D.ct (σ.set i none) H }
/-- what the clauses wish of what flies -/
def wCls (K : PySem.W.Frag) (i : Nat) (Wout : WX) (D : Ends) : List (List Value × Sui) → WX
  | [] => Wout
  | (cs, ts) :: r => fun cls d σ H => ∃ b, PySem.W.exmAny K cls cs = some b ∧ (b = true → ∀ a, H a = none → ts a cls d (gone i D) (σ.set i (some (.ref a))) H) ∧ (b = false → wCls K i Wout D r cls d σ H)
inductive HdAs (X : Cx) (n : Str) : List ExceptHandler → List (List Value × Sui) → Prop
  | nil : HdAs X n [] []
  | cons {te : Expr} {cs : List Value} {ts : Sui} {b₀ : Stmt} {suite : List Stmt} {ps : Pos} {hds : List ExceptHandler} {l : List (List Value × Sui)} (ht : AsksFor X te cs)
      (hsu : ∀ (a : Addr) (oe : Obj) (cls : Value) (d : Option Addr) (pn : List (Addr × Obj)), Zc cls d oe → (∃ vs, oe.data = .fields vs) → PSs (X.suite a ((a, oe) :: pn)) (b₀ :: suite) (ts a cls d)) (r : HdAs X n hds l) :
      HdAs X n (.ExceptHandler (some te) (some n) (b₀ :: suite) ps :: hds) ((cs, ts) :: l)

section
variable {X : Cx} {n : Str} {i : Nat} {body : List Stmt} {h₀ : ExceptHandler} {hds : List ExceptHandler} {l : List (List Value × Sui)} {pos : Pos} {tb : WX → TS} {Wout : WX}
/-- the clauses, one after the other, for what has landed -/
theorem clauses_run {D : Ends} {B : Heap} {a : Addr} {sI : Shared} {pins : List (Addr × Obj)} {σ : L2.St} {H : Hp} {cls : Value} {d : Option Addr} (hs : X.stack = X.env :: X.outer) (hf : X.env.frame = some X.env.locals) (hN : X.N.Nodup) (hi : X.N[i]? = some n) (hln : X.env.kindOf n = some .local) (tk : Takes X Wout)
    (J : Inv X pins σ H sI) (nb : ∀ b o, sI.heap.get? b = some o → b ∉ frs X.stack → B.get? b = some o) (na : H a = none) :
    ∀ {hds : List ExceptHandler} {l : List (List Value × Sui)}, HdAs X n hds l → wCls X.K i Wout D l cls d σ H → ∀ t : Shared, FlyingZ B (X.env :: X.outer) a (Zc cls d) t.heap → sI.heap.UpToSlots t.heap → t.os = sI.os → AllBare t.gens →
      wpAny (model X.prog X.w) X.A (handleBy (.ref a) X.env hds) (SP X pins D) X.xe t := by
  have ok := J.ok
  have hold : ∀ {g : Heap}, FlyingZ B (X.env :: X.outer) a (Zc cls d) g → ∃ oe vs, g.get? a = some oe ∧ Zc cls d oe ∧ oe.data = .fields vs ∧ a ∉ frs (X.env :: X.outer) := fun {g} f => by
    obtain ⟨oe, vs, e1, e2, e3⟩ := f.there
    refine ⟨oe, vs, e1, e2, e3, fun hm => ?_⟩
    obtain ⟨_, o, e4, e5⟩ := f.2.2.1.mem hm
    rw [e1] at e4
    cases e4
    exact e5 _ e3
  have inSuite : ∀ {t : Shared} {oe : Obj} {vs : Array Value}, FlyingZ B (X.env :: X.outer) a (Zc cls d) t.heap → sI.heap.UpToSlots t.heap → t.os = sI.os → AllBare t.gens → t.heap.get? a = some oe → oe.data = .fields vs → a ∉ frs (X.env :: X.outer) →
      Inv (X.suite a ((a, oe) :: (X.pn ++ pins))) [] σ H t := fun {t oe vs} f u os ag e1 e2 e3 => by
    refine (J.landed nb f.1 u os ag).suite e1 e2 na (fun z => e3 ?_) (fun hm => e3 ?_)
    · exact List.mem_filterMap.mpr ⟨X.env, List.mem_cons_self, by rw [hf, z]⟩
    · obtain ⟨e, he, q⟩ := List.mem_filterMap.mp hm
      exact List.mem_filterMap.mpr ⟨e, List.mem_cons_of_mem _ he, q⟩
  intro hds l hk
  induction hk with
  | nil =>
    intro w t f u os ag
    refine wpAny_handleBy_nil ?_
    obtain ⟨_, _, _, oe, vs, T, oT, ts, e1, e2, e3, e4, _⟩ := id f
    unfold PySem.passOn
    refine wpAny_bind (wpAny_field e1 e3 e4 ?_)
    rw [if_neg (fun z => by simp at z)]
    have up : wpAny (model X.prog X.w) X.A (setFlight (.ref a) X.env.frame) (fun _ t1 => wpAny (model X.prog X.w) X.A (throw (.ref a) : Sem Flow) (SP X pins D) X.xe t1) X.xe t := by
      rw [hf]
      refine HandSPX.setFlight_upZ f fun g held u2 => wpAny_throw (tk _ _ ⟨a, B, sI, pins, σ, H, cls, d, rfl, J, nb, u.trans u2, .inr (.inr ?_), na, os, ag, w⟩)
      rw [hs]
      exact held
    first
      | exact wpAny_bind (wpAny_pure (wpAny_bind up))
      | exact wpAny_bind up
  | @cons te cs ts b₀ suite ps hds2 l2 ht hsu r ih =>
    intro w t f u os ag
    obtain ⟨b, w1, w2, w3⟩ := w
    obtain ⟨oe, vs, e1, e2, e3, e4⟩ := hold f
    refine wpAny_handleBy_cons (codeAny_handlers_test ?_) (fun q => by cases q)
    refine ht a oe (X.pn ++ pins) [] t σ H b _ _ (inSuite f u os ag e1 e3 e4) e1 (by rw [e2.1]; exact w1) fun g k => ?_
    have f1 := fly_grow f k
    have u1 := up_grow u k
    cases b with
    | false =>
      show wpAny _ X.A (handleBy (.ref a) X.env hds2) _ _ _
      exact ih (w3 rfl) { t with heap := g } f1 u1 os ag
    | true =>
      refine codeAny_handlers_suite_as (HandSPX.lands_againZ f1 fun g2 f2 u2 => ?_)
      obtain ⟨o2, v2, k1, k2, k3, k4⟩ := hold f2
      have S2 := inSuite (t := { t with heap := g2 }) f2 (u1.trans u2) os ag k1 k3 k4
      refine store_ok (X := X.suite a ((a, o2) :: (X.pn ++ pins))) (v := .ref a) S2 hN hi (.inl hln) rfl (fun t3 S3 => ?_) (.inr hln)
      refine wpAny_mono ((hsu a o2 cls d (X.pn ++ pins) k2 ⟨_, k3⟩).run [] t3 _ H _ S3 (w2 rfl a na)) (fun fl t4 end4 => ?_) (fun _ _ z => z.elim)
      have leave : ∀ {σ4 : L2.St} {H4 : Hp} {Q : Shared → Prop}, Inv (X.suite a ((a, o2) :: (X.pn ++ pins))) [] σ4 H4 t4 → (∀ t5, Inv X pins (σ4.set i none) H4 t5 → Q t5) →
          wpAny (model X.prog X.w) X.A (do bindName X.env n .none; unbindBehindTheSuite X.env n ps) (fun _ t5 => Q t5) X.xe t4 := fun {σ4 H4 Q} S4 hq => gone_ok (S4.unsuite ok) hN hi hln hq
      cases fl with
      | next =>
        obtain ⟨σ4, H4, S4, q4⟩ := end4
        exact leave S4 fun t5 J5 => ⟨_, _, J5, q4⟩
      | brk =>
        obtain ⟨σ4, H4, S4, q4⟩ := end4
        exact leave S4 fun t5 J5 => ⟨_, _, J5, q4⟩
      | cont =>
        obtain ⟨σ4, H4, S4, q4⟩ := end4
        exact leave S4 fun t5 J5 => ⟨_, _, J5, q4⟩
      | ret v =>
        obtain ⟨v4, σ4, H4, S4, r4, q4⟩ := end4
        exact leave S4 fun t5 J5 => ⟨_, _, _, J5, r4, q4⟩
theorem ps_try_cls (hs : X.stack = X.env :: X.outer) (hf : X.env.frame = some X.env.locals) (hN : X.N.Nodup) (hi : X.N[i]? = some n) (hln : X.env.kindOf n = some .local) (tk : Takes X Wout)
    (hb : ∀ (W : WX) (pn : List (Addr × Obj)) (xe : Value → Shared → Prop), Takes (X.tr pn xe) W → PassesOwn (model X.prog X.w) X.A X.env xe → PSs (X.tr pn xe) body (tb W)) (hh : HdAs X n (h₀ :: hds) l) :
    PS X (.Try body (h₀ :: hds) [] [] pos) (fun D σ H => tb (wCls X.K i Wout D l) D σ H) := by
  refine ⟨fun pins s σ H D I h => ?_⟩
  have ok := I.ok
  have hfr : X.A.frames = some (X.env :: X.outer) := ok.frames.trans (by rw [hs])
  refine wpAny_Try_except (wpAny_mono ((hb (wCls X.K i Wout D l) (X.pn ++ pins) (fun e s₁ => wpAny (model X.prog X.w) X.A (noteFrame e X.env) (fun _ s₂ => wpAny (model X.prog X.w) X.A (setFlight e none) (fun _ s₃ =>
    wpAny (model X.prog X.w) X.A (handleBy e X.env (h₀ :: hds)) (SP X pins D) X.xe s₃) X.xe s₂) X.xe s₁) (fun u s' flew => ?_) PassesOwn.looking).run [] s σ H D (I.toTry _) h) (fun f s1 hsp => ?_) (fun e s1 he => he))
  · obtain ⟨a, B, sI, pins', σ', H', cls, d, rfl, J', nb, up, sky, na, os, ag, w⟩ := flew
    rw [show (X.tr (X.pn ++ pins) _).stack = X.env :: X.outer from hs] at sky
    show wpAny (model X.prog X.w) X.A (noteFrame (.ref a) X.env) _ _ _
    exact Sky.land Zc.steady hfr hf sky fun h3 fl up3 => clauses_run hs hf hN hi hln tk (J'.ofTry ok) nb na hh w { s' with heap := h3 } fl (up.trans up3) os ag
  · have back : ∀ {xe : Value → Shared → Prop} {σ' : L2.St} {H' : Hp}, Inv (X.tr (X.pn ++ pins) xe) [] σ' H' s1 → Inv X pins σ' H' s1 := fun J => J.ofTry ok
    cases f with
    | next =>
      obtain ⟨σ', H', J', q⟩ := hsp
      exact wpAny_execs_nil ⟨σ', H', back J', q⟩
    | brk =>
      obtain ⟨σ', H', J', q⟩ := hsp
      exact ⟨σ', H', back J', q⟩
    | cont =>
      obtain ⟨σ', H', J', q⟩ := hsp
      exact ⟨σ', H', back J', q⟩
    | ret v =>
      obtain ⟨x, σ', H', J', r, q⟩ := hsp
      exact ⟨x, σ', H', back J', r, q⟩
end
end Hw
set_option maxHeartbeats 1000000
/-! Hw, part 13: f(lambda: e), f a def that tells what e gives or what error flies. -/
namespace Hw
open PySem PySem.Spec L2 LamX
open PyProof.Rows (envOfC)
variable [Tb]

/-- e.f, .. in a suite -/
inductive FldEs (n : Str) : List Expr → List Str → Prop
  | nil : FldEs n [] []
  | cons {f : Str} {fs : List Str} {es : List Expr} {p1 p2 : Pos} (r : FldEs n es fs) : FldEs n (.Attribute (.Name n p1) f p2 :: es) (f :: fs)
/-- what is known of a class whose fields are read -/
structure XfAll (K : PySem.W.Frag) (C : Addr) (fs : List Str) : Prop where
  xf : XfC K C
  no : ∀ f ∈ fs, PySem.W.findIn K (.ref C) f = some none
def tFlds (K : PySem.W.Frag) (i : Nat) (a : Addr) (cls : Value) (d : Option Addr) (fs : List Str) : TA := fun σ H Q => σ[i]? = some (some (.ref a)) ∧ ∃ (C dd : Addr) (fl : List (Str × V)) (vs : List V),
  cls = .ref C ∧ d = some dd ∧ H dd = some (.xd fl) ∧ XfAll K C fs ∧ (fs.map fun f => fl.lookup f) = vs.map some ∧ Q vs H
section
variable {X : Cx} {a : Addr} {oe : Obj} {cls : Value} {d : Option Addr} {pn : List (Addr × Obj)} {n : Str} {i : Nat}
theorem pa_flds (hz : Zc cls d oe) (hf : ∃ vs, oe.data = .fields vs) (hN : X.N[i]? = some n) (hv : Vis X.env.scope n) (hdb : (n == ("__debug__" : Str)) = false) (hcd : (n == ("__classdict__" : Str)) = false) {es : List Expr} {fs : List Str} (h : FldEs n es fs) :
    PA (X.suite a ((a, oe) :: pn)) es (tFlds X.K i a cls d fs) := by
  induction h with
  | nil =>
    refine pa_weak pa_nil fun σ H Q h => ?_
    obtain ⟨_, C, dd, fl, vs, _, _, _, _, e, q⟩ := h
    cases vs with
    | nil => exact q
    | cons v vs => cases e
  | @cons f fs es p1 p2 r ih =>
    have one : PE (X.suite a ((a, oe) :: pn)) (.Attribute (.Name n p1) f p2) (fun σ H Q => σ[i]? = some (some (.ref a)) ∧ ∃ (C dd : Addr) (fl : List (Str × V)) (v : V), cls = .ref C ∧ d = some dd ∧ H dd = some (.xd fl) ∧ XfC X.K C ∧ PySem.W.findIn X.K (.ref C) f = some none ∧ fl.lookup f = some v ∧ Q v H) := by
      refine ⟨fun pins s σ H Q I h => ?_⟩
      obtain ⟨h1, C, dd, fl, v, h2, h3, h4, h5, h6, h7, h8⟩ := h
      exact (pe_xf (X := X) h5 h6 hz hf (pe_var (X := X.suite a ((a, oe) :: pn)) hN hv hdb hcd)).run pins s σ H Q I ⟨.ref a, h1, rfl, h2, dd, fl, v, h3, h4, h7, h8⟩
    refine pa_weak (pa_cons one ih) fun σ H Q h => ?_
    obtain ⟨h1, C, dd, fl, vs, h2, h3, h4, h5, h6, h7⟩ := h
    cases vs with
    | nil => cases h6
    | cons v vs =>
      rw [List.map_cons, List.map_cons] at h6
      obtain ⟨e1, e2⟩ := List.cons.inj h6
      exact ⟨h1, C, dd, fl, v, h2, h3, h4, h5.xf, h5.no f List.mem_cons_self, e1, h1, C, dd, fl, vs, h2, h3, h4, ⟨h5.xf, fun g hg => h5.no g (List.mem_cons_of_mem _ hg)⟩, e2, h7⟩
/-- return ("no", e.f, ..) -/
def tsTell (K : PySem.W.Frag) (N i : Nat) (w : Str) (fs : List Str) : Sui := fun a cls d D σ H => σ.length = N → tFlds K i a cls d fs σ H fun vs H1 => vs.length + 1 ≤ sizeLine ∧ ∀ p, H1 p = none → D.rt (.ref p) (upd H1 p (.tup (.str w :: vs)))
theorem tell_suite {w : Str} {es : List Expr} {fs : List Str} {j kk : Nat} {p1 p2 p3 : Pos} (h : FldEs n es fs) (hN : X.N[i]? = some n) (hv : Vis X.env.scope n) (hdb : (n == ("__debug__" : Str)) = false) (hcd : (n == ("__classdict__" : Str)) = false)
    (a : Addr) (oe : Obj) (cls : Value) (d : Option Addr) (pn : List (Addr × Obj)) (hz : Zc cls d oe) (hf : ∃ vs, oe.data = .fields vs) :
    PSs (X.suite a ((a, oe) :: pn)) [.Return (some (.Tuple (.Constant (.str w) j p1 :: es) kk p2)) p3] (tsTell X.K X.N.length i w fs a cls d) := by
  have p := pss_one (ps_ret (pos := p3) (pe_tup (x1 := kk) (pos := p2) (pa_cons (show PE (X.suite a ((a, oe) :: pn)) (.Constant (.str w) j p1) (tC (.str w)) from pe_str) (pa_flds hz hf hN hv hdb hcd h))))
  refine ⟨fun pins s σ H D I q => p.run pins s σ H D I ?_⟩
  obtain ⟨h1, C, dd, fl, vs, h2, h3, h4, h5, h6, h7, h8⟩ := q I.len
  exact ⟨h1, C, dd, fl, vs, h2, h3, h4, h5, h6, h7, h8⟩
end

/-! ### which clause takes a class -/
/-- the clauses: their classes, the fields that are told -/
abbrev Clauses := List (List Value × List Str)
def tellAt (K : PySem.W.Frag) (C : Addr) : Clauses → Option (List Str)
  | [] => none
  | (cs, fs) :: r => match PySem.W.exmAny K (.ref C) cs with
    | some true => some fs
    | some false => tellAt K C r
    | none => none
structure TellOk (K : PySem.W.Frag) (cl : Clauses) (C : Addr) (fs : List Str) : Prop where
  at_ : tellAt K C cl = some fs
  all : XfAll K C fs
def tellB (K : PySem.W.Frag) (cl : Clauses) (C : Addr) (fs : List Str) : Bool := decide (tellAt K C cl = some fs) && xfB K C && fs.all fun f => decide (PySem.W.findIn K (.ref C) f = some none)
theorem tellB_ok {K : PySem.W.Frag} {cl : Clauses} {C : Addr} {fs : List Str} (h : tellB K cl C fs = true) : TellOk K cl C fs := by
  unfold tellB at h
  simp only [Bool.and_eq_true, decide_eq_true_eq, List.all_eq_true] at h
  exact ⟨h.1.1, xfB_ok h.1.2, h.2⟩
/-- what flies is told -/
def Etell (K : PySem.W.Frag) (cl : Clauses) (w : Str) (Q : VK) : XK := fun cls d H => ∃ (C dd : Addr) (fl : List (Str × V)) (fs : List Str) (vs : List V), cls = .ref C ∧ d = some dd ∧ H dd = some (.xd fl) ∧ TellOk K cl C fs ∧ (fs.map fun f => fl.lookup f) = vs.map some ∧
  vs.length + 1 ≤ sizeLine ∧ ∀ p, H p = none → Q (.ref p) (upd H p (.tup (.str w :: vs)))
theorem etell_cls {K : PySem.W.Frag} {i N : Nat} {w : Str} {D : Ends} {W : WX} {cls : Value} {d : Option Addr} {σ : L2.St} {H : Hp} (hi : i < N) : ∀ {cl : Clauses}, Etell K cl w D.rt cls d H → wCls K i W D (cl.map fun c => (c.1, tsTell K N i w c.2)) cls d σ H
  | [], h => by
    obtain ⟨C, dd, fl, fs, vs, h1, h2, h3, ⟨h4, _⟩, h5, h6⟩ := h
    cases h4
  | (cs, fs') :: cl, h => by
    obtain ⟨C, dd, fl, fs, vs, h1, h2, h3, ⟨h4, h4'⟩, h5, h6, h7⟩ := h
    unfold tellAt at h4
    subst h1
    cases he : PySem.W.exmAny K (.ref C) cs with
    | none => rw [he] at h4; cases h4
    | some b =>
      rw [he] at h4
      refine ⟨b, he, fun hb a ha hl => ?_, fun hb => ?_⟩
      · subst hb
        cases h4
        rw [List.length_set] at hl
        exact ⟨List.getElem?_set_self (by omega), C, dd, fl, vs, rfl, h2, h3, h4', h5, h6, fun p hp => h7 p hp⟩
      · subst hb
        exact etell_cls hi ⟨C, dd, fl, fs, vs, rfl, h2, h3, ⟨h4, h4'⟩, h5, h6, h7⟩
/-- told: try: return (w1, a()) / except (..) as e: return (w2, e.f, ..) -/
def TTry (K : PySem.W.Frag) (cl : Clauses) (w1 w2 : Str) : (XK → Hp → VK → Prop) → Hp → VK → Prop := fun tl H Q =>
  tl (Etell K cl w2 Q) H fun v H1 => [V.str w1, v].length ≤ sizeLine ∧ ∀ p, H1 p = none → Q (.ref p) (upd H1 p (.tup [.str w1, v]))
theorem tried_gives {X : Cx} {Ng : List Str} {x a e q w1 w2 : Str} {sg : Scope} {g : Addr} {cdg : Value} {cl : Clauses} {j kk i : Nat} {p1 p2 p3 p4 p5 p6 : Pos} {h₀ : ExceptHandler} {hds : List ExceptHandler} (hN : Ng.Nodup) (hi : Ng[i]? = some e) (hln : sg.names.lookup e = some .local) (h0 : ∀ f : Addr, (L2.start Ng [V.ref f])[0]? = some (some (V.ref f)))
    (hh : ∀ (s : Shared) (H : Hp), HdAs (cxOf C8.CX0 X.prog X.w X.K X.mg X.base Ng x sg g cdg X.A X.stack s H C8.E0).nox e (h₀ :: hds) (cl.map fun c => (c.1, tsTell X.K Ng.length i w2 c.2))) :
    GivesTo X Ng x sg g cdg [.Try [.Return (some (.Tuple [.Constant (.str w1) j p1, .Call (.Name a p2) [] [] p3] kk p4)) p5] (h₀ :: hds) [] [] p6] a q (TTry X.K cl w1 w2) := by
  intro f c' s H Q tl act hc h
  have il : i < Ng.length := (List.getElem?_eq_some_iff.mp hi).1
  refine ⟨_, pss_one (ps_try_cls (X := (cxOf C8.CX0 X.prog X.w X.K X.mg X.base Ng x sg g cdg X.A X.stack s H C8.E0).nox) (i := i)
      (tb := fun W D σ H => ∃ Ech : XK, (∀ cls d σ' H', Ech cls d H' → W cls d σ' H') ∧ σ[0]? = some (some (.ref f)) ∧ H c' = some (CodeO c' q) ∧ tl Ech H fun v H1 => [V.str w1, v].length ≤ sizeLine ∧ ∀ p, H1 p = none → D.rt (.ref p) (upd H1 p (.tup [.str w1, v])))
      rfl rfl hN hi hln L2.takes0 (fun W pn xe tk _ => ?_) (hh s H)), ?_⟩
  · refine ⟨fun pins s' σ H' D I h' => ?_⟩
    obtain ⟨Ech, hW, h1, h2, h3⟩ := h'
    have hp := act W pn xe Ech p2 p3 tk hW
    have hq := pss_one (ps_ret (pos := p5) (pe_tup (x1 := kk) (pos := p4) (pa_cons (show PE _ (.Constant (.str w1) j p1) (tC (.str w1)) from pe_str) (pa_cons hp pa_nil))))
    exact hq.run pins s' σ H' D I ⟨h1, h2, h3⟩
  · exact ⟨Etell X.K cl w2 Q, fun cls d σ' H' z => etell_cls il z, h0 f, hc, h⟩

/-! ### the caller -/
/-- all that was known to the world is known behind the making of a lambda -/
theorem Wd.lam {k : Kx} {A : List Addr} {F : Hp} {τ : Tau} {H Z H1 : Hp} (w : Wd k A F τ H Z) (e : ExtN H H1) (t : Tabs Tb.T H1) : Wd k A F τ H1 Z := by
  have nt : ∀ {o : HO}, isPl o = true → ∀ ps, o ≠ .tbl ps := fun {o} h ps z => by
    subst z
    cases h
  refine ⟨fun a o h => e a o (w.zh a o h) (nt (w.pl a o (.inl h))), fun a o h => e a o (w.fh a o h) (nt (w.pl a o (.inr h))), w.zf, w.len, fun j a d h1 h2 => ?_, w.out, w.nd, t, w.pl⟩
  obtain ⟨o, h3, h4⟩ := w.io j a d h1 h2
  exact ⟨o, e a o h3 (nt h4.pl), h4⟩
/-- the fields of an exception, as data -/
def tellD (e : Exc) : List Str → Option (List D)
  | [] => some []
  | f :: fs => match (e.fs.zip e.vs).lookup f, tellD e fs with
    | some d, some ds => some (d :: ds)
    | _, _ => none
/-- tab: the classes that may fly, with the fields that are told of each -/
def eTried (tab : List (Str × List Str)) (w1 w2 : Str) (m : SE) : SE := fun ρ τ => match m ρ τ with
  | .ok d τ1 => .ok (.tup [.str w1, d]) τ1
  | .exc e τ1 => match tab.lookup e.c with
    | some fs => match tellD e fs with
      | some ds => if ds.length < 1000 then .ok (.tup (.str w2 :: ds)) τ1 else .bad
      | none => .bad
    | none => .bad
  | .bad => .bad
theorem look_reps {k : Kx} {Z : Hp} {f : Str} {d : D} : ∀ {fs : List Str} {ds : List D} {vs : List V}, Reps k Z ds vs → (fs.zip ds).lookup f = some d → ∃ v, (fs.zip vs).lookup f = some v ∧ Rep k Z d v
  | [], _, _, _, h => by cases h
  | g :: fs, [], _, _, h => by cases h
  | g :: fs, e :: ds, vs, r, h => by
    obtain ⟨v, u, rfl, r1, r2⟩ := reps_cons.mp r
    rw [List.zip_cons_cons, List.lookup_cons] at h ⊢
    cases hg : f == g with
    | true =>
      rw [hg] at h
      cases h
      exact ⟨v, rfl, r1⟩
    | false =>
      rw [hg] at h
      exact look_reps r2 h
theorem tell_reps {k : Kx} {Z : Hp} {e : Exc} {us : List V} (r : Reps k Z e.vs us) : ∀ {fs : List Str} {ds : List D}, tellD e fs = some ds → ∃ vs, (fs.map fun f => (e.fs.zip us).lookup f) = vs.map some ∧ Reps k Z ds vs
  | [], ds, h => by
    cases h
    exact ⟨[], rfl, Reps.nil⟩
  | f :: fs, ds, h => by
    unfold tellD at h
    split at h
    · rename_i d ds' h1 h2
      cases h
      obtain ⟨v, h3, h4⟩ := look_reps r h1
      obtain ⟨vs, h5, h6⟩ := tell_reps r h2
      exact ⟨v :: vs, by rw [List.map_cons, List.map_cons, h3, h5], Reps.cons h4 h6⟩
    · cases h
theorem mem_look {α : Type} {c : Str} {b : α} : ∀ {l : List (Str × α)}, l.lookup c = some b → (c, b) ∈ l
  | [], h => by cases h
  | (k, y) :: l, h => by
    rw [List.lookup_cons] at h
    cases hk : c == k with
    | true =>
      rw [hk] at h
      cases h
      rw [eq_of_beq hk]
      exact List.mem_cons_self
    | false =>
      rw [hk] at h
      exact List.mem_cons_of_mem _ (mem_look h)
section
variable {X : Cx} {W : WX}
theorem tried_ok {tab : List (Str × List Str)} {cl : Clauses} {w1 w2 : Str} {m : SE} (ht : ∀ c fs, (c, fs) ∈ tab → ∀ C, X.mg c = some (.ref C) → TellOk X.K cl C fs) :
    ∀ σ H Q, tE (jx X W) (eTried tab w1 w2 m) σ H Q → tLam Tb.T (TTry X.K cl w1 w2) (fun E => tE (jx X (WX0 E)) m) σ H Q := fun σ H Q ⟨ρ, τ, A, F0, F, Z, w, s, q⟩ => by
  refine ⟨w.tabs, fun H1 eN t1 => ?_⟩
  have w1' := w.lam eN t1
  refine ⟨ρ, τ, A, F0, F, Z, w1', s, ?_⟩
  unfold eTried at q
  cases hm : m ρ τ with
  | bad => rw [hm] at q; exact q.elim
  | ok d τ1 =>
    rw [hm] at q
    intro H2 Z2 w2' e2 v rv
    refine ⟨by show 2 ≤ sizeLine; decide, fun p hp => ?_⟩
    have zp := none_of_same w2'.zh hp
    exact q _ _ (w2'.alloc (o := .tup [.str w1, v]) hp rfl) (e2.trans (same_new zp)) _ (rep_tup.mpr ⟨p, _, rfl, upd_same, Reps.cons (rep_str.mpr rfl) (Reps.cons (rv.mono (same_new zp)) Reps.nil)⟩)
  | exc e τ1 =>
    rw [hm] at q
    dsimp only at q
    intro cls dx H2 Z2 w2' e2 rx sl
    split at q
    · rename_i fs hfs
      split at q
      · rename_i ds hds
        split at q
        · rename_i hl
          obtain ⟨C, d, us, rfl, h2, rfl, h4, h5, h6, h7, h8⟩ := rx
          obtain ⟨vs, g1, g2⟩ := tell_reps h6 hds
          refine ⟨C, d, _, fs, vs, rfl, rfl, h4, ht _ _ (mem_look hfs) C h2, g1, ?_, fun p hp => ?_⟩
          · rw [← g2.length]
            have : (1000 : Nat) < sizeLine := by decide
            omega
          · have zp := none_of_same w2'.zh hp
            exact q _ _ (w2'.alloc (o := .tup (.str w2 :: vs)) hp rfl) (e2.trans (same_new zp)) _ (rep_tup.mpr ⟨p, _, rfl, upd_same, Reps.cons (rep_str.mpr rfl) (g2.mono (same_new zp))⟩)
        · exact q.elim
      · exact q.elim
    · exact q.elim
/-- x(lambda: body) -/
theorem ev_tried {tab : List (Str × List Str)} {cl : Clauses} {w1 w2 : Str} {m : SE} {x a : Str} {g c P : Addr} {k : Nat} {pg : Arguments} {bg : List Stmt} {sg : Scope} {dV kV doc pm cdv ct oc : Value} {an od : Option Addr} {osl : Array (Option Value)} {Ng : List Str}
    {params : Arguments} {body : Expr} {scope : Scope} {p lpos pos : Pos} (ht : ∀ c fs, (c, fs) ∈ tab → ∀ C, X.mg c = some (.ref C) → TellOk X.K cl C fs) (hg : Gl X x) (hm : X.mg x = some (.ref g)) (hk : PySem.W.keepIn X.K (.ref g) = true)
    (lk : X.K.lookup g = some ⟨oc, od, .func (PySem.W.fnOf x x pg bg sg dV kV doc pm an cdv ct), osl⟩) (hcg : PySem.W.codeIn X.K cdv x = true) (hb : L2.Binds X.K (PySem.W.fnOf x x pg bg sg dV kV doc pm an cdv ct) [a] []) (Sg : FnScope Ng [a] sg) (hNg : Ng[0]? = some a) (hva : Vis sg a)
    (hG : GivesTo X Ng x sg g cdv bg a (X.env.qual ++ "<lambda>") (TTry X.K cl w1 w2))
    (TB : TabB X.base X.mg c P) (hcode : X.env.code = .ref c) (hmT : (P, X.env.qual ++ "<lambda>") ∈ Tb.T) (hu : ∀ p ∈ Tb.T, p.1 = P → p.2 = X.env.qual ++ "<lambda>") (hr : Room (k + 2) X.A) (L : LamS X.env.scope scope) (hdef : defaultsOf params X.env = ([], []))
    (hbind : ∀ (q : Str) (cl : List (Str × Addr)) (pm cv ctv : Value), bindArgs (PySem.W.kla_fn "<lambda>" q params body scope cl pm cv ctv) ⟨[], []⟩ = pure [])
    (hbody : ∀ (A : Around) (outer : List PySem.Env) (s : Shared) (H : Hp) (E : XK) (f c' : Addr), Room k (A.deeper (lamEnv X scope s.heap.objs.size f c')) → EV (lamCx X A outer s H E scope f c') (WX0 E) body m)
    (hdb : (x == ("__debug__" : Str)) = false := by decide) (hd : (a == ("__debug__" : Str)) = false := by decide) (hcd : (a == ("__classdict__" : Str)) = false := by decide) :
    EV X W (.Call (.Name x p) [.Lambda params body scope lpos] [] pos) (eTried tab w1 w2 m) :=
  pe_weak (pe_lamcall (T := Tb.T) (TT := TTry X.K cl w1 w2) (t := fun E => tE (jx X (WX0 E)) m) hg hm hk lk hcg hb Sg hNg hva hG TB hcode hmT hu hr L hdef hbind hbody hdb hd hcd) (tried_ok ht)
end
end Hw
set_option maxHeartbeats 1000000
/-! Hw, part 14: defaults, instances of own classes: made, stored to, read, asked for their length; methods. -/
namespace Hw
open PySem PySem.Spec L2
open PyProof.Rows (envOfC)
variable [Tb]

/-! ### fields as data -/
theorem RepB.ins {k : Kx} {F Z H : Hp} (eZ : Same Z H) (eF : Same F H) {c : Str} {fs : List Str} {ds : List D} {v : V} (h : RepB k F Z (.ins c fs ds) v) : ∃ a C dx vs, v = .ref a ∧ H a = some (.ins C dx (fs.zip vs)) ∧ k.mg c = some (.ref C) ∧ fs.length = vs.length ∧ Reps k Z ds vs := by
  rcases h with h | ⟨a, o, h1, h2, h3⟩
  · obtain ⟨a, C, dx, vs, h1, h2, h3, h4, h5⟩ := rep_ins.mp h
    exact ⟨a, C, dx, vs, h1, eZ _ _ h2, h3, h4, h5⟩
  · obtain ⟨C, dx, vs, rfl, h4, h5, h6⟩ := h3
    exact ⟨a, C, dx, vs, h1, eF _ _ h2, h4, h5, h6⟩
/-- what is known of the class c and its field f -/
def FldK (K : PySem.W.Frag) (mg : Str → Option Value) (c f : Str) : Prop := ∀ C, mg c = some (.ref C) → Cls K C ∧ NoAttr K C f
def dFld (c f : Str) : D → Option D
  | .ins c' fs ds => if c' = c then (fs.zip ds).lookup f else none
  | _ => none
section
variable {X : Cx} {W : WX} {e : Expr} {m : SE} {pos : Pos} {f c : Str}
theorem fld_ok (hk : FldK X.K X.mg c f) : ∀ σ H Q, tE (jx X W) (eUn (dFld c f) m) σ H Q → tFld X.K (tB (jx X W) m) f σ H Q := fun σ H Q ⟨ρ, τ, A, F0, F, Z, w, s, q⟩ =>
  ⟨ρ, τ, A, F0, F, Z, w, s, After.next q fun d τ1 H1 Z1 w1 e1 q1 v rv => by
    obtain ⟨z, hz, q2⟩ := After.of q1
    unfold dFld at hz
    split at hz
    · rename_i c' fs ds
      split at hz
      · rename_i hc
        subst hc
        obtain ⟨a, C, dx, vs, rfl, h2, h3, h4, h5⟩ := rv.ins w1.zh w1.fh
        obtain ⟨u, g1, g2⟩ := look_reps h5 hz
        obtain ⟨k1, k2⟩ := hk C h3
        exact ⟨a, C, dx, _, u, rfl, h2, k1, k2, g1, After.ok q2 w1 _ g2⟩
      · cases hz
    · cases hz⟩
theorem ev_fld (c : Str) (hk : FldK X.K X.mg c f) (he : EB X W e m) (hb : attributeBase e f X.env (eval e X.env) = eval e X.env := by rfl) : EV X W (.Attribute e f pos) (eUn (dFld c f) m) := pe_weak (pe_fld he hb) (fld_ok hk)
end
/-- a lent or own object that is read whole -/
def eIo (i : Nat) : SE := fun ρ τ => match getC i ρ τ with
  | some d => .ok d τ
  | none => .bad

/-! ### x.f = e -/
def putN (f : Str) : List Str → List Str
  | [] => [f]
  | g :: fs => if g = f then g :: fs else g :: putN f fs
def putX {α : Type} (f : Str) (x : α) : List Str → List α → List α
  | g :: fs, y :: ys => if g = f then x :: ys else y :: putX f x fs ys
  | _, _ => [x]
theorem putF_zip (f : Str) (x : V) : ∀ (fs : List Str) (vs : List V), fs.length = vs.length → putF f x (fs.zip vs) = (putN f fs).zip (putX f x fs vs)
  | [], [], _ => rfl
  | [], _ :: _, h => by cases h
  | _ :: _, [], h => by cases h
  | g :: fs, v :: vs, h => by
    show (if g = f then (g, x) :: fs.zip vs else (g, v) :: putF f x (fs.zip vs)) = (if g = f then g :: fs else g :: putN f fs).zip (if g = f then x :: vs else v :: putX f x fs vs)
    by_cases hg : g = f
    · rw [if_pos hg, if_pos hg, if_pos hg]
      rfl
    · rw [if_neg hg, if_neg hg, if_neg hg, putF_zip f x fs vs (Nat.succ.inj h)]
      rfl
theorem put_len (f : Str) {α : Type} (x : α) : ∀ (fs : List Str) (vs : List α), fs.length = vs.length → (putN f fs).length = (putX f x fs vs).length
  | [], [], _ => rfl
  | [], _ :: _, h => by cases h
  | _ :: _, [], h => by cases h
  | g :: fs, v :: vs, h => by
    show (if g = f then g :: fs else g :: putN f fs).length = (if g = f then x :: vs else v :: putX f x fs vs).length
    by_cases hg : g = f
    · rw [if_pos hg, if_pos hg]; exact h
    · rw [if_neg hg, if_neg hg, List.length_cons, List.length_cons, put_len f x fs vs (Nat.succ.inj h)]
theorem putX_reps {k : Kx} {Z : Hp} (f : Str) {d : D} {v : V} (r : Rep k Z d v) : ∀ (fs : List Str) {ds : List D} {vs : List V}, fs.length = vs.length → Reps k Z ds vs → Reps k Z (putX f d fs ds) (putX f v fs vs)
  | [], [], vs, h, g => by
    rw [reps_nil] at g; subst g
    exact Reps.cons r Reps.nil
  | [], _ :: _, vs, h, g => by
    obtain ⟨_, _, rfl, _, _⟩ := reps_cons.mp g
    cases h
  | g :: fs, [], vs, h, q => by
    rw [reps_nil] at q; subst q
    cases h
  | g :: fs, e :: ds, vs, h, q => by
    obtain ⟨u, us, rfl, r1, r2⟩ := reps_cons.mp q
    show Reps k Z (if g = f then d :: ds else e :: putX f d fs ds) (if g = f then v :: us else u :: putX f v fs us)
    by_cases hg : g = f
    · rw [if_pos hg, if_pos hg]; exact Reps.cons r r2
    · rw [if_neg hg, if_neg hg]; exact Reps.cons r1 (putX_reps f r fs (Nat.succ.inj h) r2)
def dPutF (c f : Str) (x d : D) : Option D := match x with
  | .ins c' fs ds => if c' = c ∧ fs.length < 1000 then some (.ins c (putN f fs) (putX f d fs ds)) else none
  | _ => none
def sFldS (i : Nat) (c f : Str) (m : SE) : SS := fun ρ τ => (m ρ τ).andS ρ fun d τ1 => match getC i ρ τ1 with
  | some x => match dPutF c f x d with
    | some y => .nx (setC i y ρ τ1).1 (setC i y ρ τ1).2
    | none => .bad
  | none => .bad
section
variable {X : Cx} {W : WX} {r : Bool} {e : Expr} {m : SE} {pos pos' p2 : Pos} {f c x : Str}
theorem fldS_ok {i : Nat} (hk : FldK X.K X.mg c f) : ∀ D σ H, tS (jx X W) r (sFldS i c f m) D σ H → sFld X.K (tVar i) (tE (jx X W) m) f D σ H := fun D σ H ⟨ρ, τ, A, F0, F, Z, w, s, q⟩ =>
  ⟨ρ, τ, A, F0, F, Z, w, s, After.andS q fun d τ1 H1 Z1 w1 e1 q1 v rv => by
    cases h0 : getC i ρ τ1 with
    | none => rw [h0] at q1; exact q1.elim
    | some c0 =>
      rw [h0] at q1
      dsimp only at q1
      cases hy : dPutF c f c0 d with
      | none => rw [hy] at q1; exact q1.elim
      | some y =>
        rw [hy] at q1
        obtain ⟨a, o, ha, h1, h2, h3⟩ := cont_at w1 (s.mono e1) h0
        unfold dPutF at hy
        split at hy
        · rename_i c' fs ds
          split at hy
          · rename_i hc
            obtain ⟨rfl, hl⟩ := hc
            cases hy
            obtain ⟨C, dx, vs, rfl, g1, g2, g3⟩ := h2
            obtain ⟨k1, k2⟩ := hk C g1
            refine ⟨.ref a, ha, a, C, dx, _, rfl, h1, k1, k2, ?_, ?_⟩
            · rw [List.length_zip, ← g2, Nat.min_self]; exact hl
            · obtain ⟨F', w2, s2⟩ := h3 (.ins c' (putN f fs) (putX f d fs ds)) (.ins C dx (putF f v (fs.zip vs))) ⟨C, dx, putX f v fs vs, by rw [putF_zip f v fs vs g2], g1, put_len f v fs vs g2, putX_reps f rv fs g2 g3⟩
              exact AfterS.next q1 w2 s2
          · cases hy
        · cases hy⟩
theorem es_fld (i : Nat) (c : Str) (hk : FldK X.K X.mg c f) (he : EV X W e m) (hN : X.N[i]? = some x := by rfl) (hv : Vis X.env.scope x := by first | exact Or.inl rfl | exact Or.inr (Or.inl rfl) | exact Or.inr (Or.inr rfl)) (hd : (x == ("__debug__" : Str)) = false := by decide)
    (hcd : (x == ("__classdict__" : Str)) = false := by decide) (hs : swapsWith e (some (.Attribute (.Name x p2) f pos')) pos.line X.env = pure false := by rfl) : ES X W r (.Assign [.Attribute (.Name x p2) f pos'] e pos) (sFldS i c f m) :=
  ps_weak (ps_fld (pe_var hN hv hd hcd) he hs) (fldS_ok hk)
end

/-! ### defaults -/
/-- data that stands everywhere -/
def RepAll (k : Kx) (ds : List D) (vs : List V) : Prop := ∀ Z, Reps k Z ds vs
def rDef (a : SR) (ds : List D) : SR := fun ρ τ => (a ρ τ).bind fun ss τ1 => .ok (ss ++ ds.map .fz) τ1
theorem argRel_def {k : Kx} {A : List Addr} {Z : Hp} {ds : List D} {us : List V} (g : Reps k Z ds us) : ∀ {ss : List Sv} {vs : List V}, ArgRel k A Z ss vs → ArgRel k A Z (ss ++ ds.map .fz) (vs ++ us)
  | [], vs, h => by
    have h : vs = [] := h
    subst h
    rw [List.nil_append, List.nil_append]
    induction ds generalizing us with
    | nil => exact reps_nil.mp g
    | cons d ds ih =>
      obtain ⟨v, r, rfl, r1, r2⟩ := reps_cons.mp g
      exact ⟨v, r, rfl, r1, ih r2⟩
  | .fz d :: ss, _, ⟨v, r, h1, h2, h3⟩ => ⟨v, r ++ us, by rw [h1]; rfl, h2, argRel_def g h3⟩
  | .io j :: ss, _, ⟨a, r, h1, h2, h3⟩ => ⟨a, r ++ us, by rw [h1]; rfl, h2, argRel_def g h3⟩
  | .no :: _, _, h => h.elim
  | .own _ :: _, _, h => h.elim
section
variable {X : Cx} {W : WX} {e : Expr} {es : List Expr} {mr : SR} {pos p : Pos} {x : Str} {f : Addr} {fd : FuncData} {ps : List Str} {k : Nat} {mf : MF} {dds : List D} {dvs : List V} {ds : List Value}
theorem def_args {sp : Sp} {E : L2.St → XK} (hr : RepAll ⟨X.K, X.mg⟩ dds dvs) {σ : L2.St} {H : Hp} {Q : VK} (h : tCallS sp E (tR (jx X W) (rDef mr dds)) σ H Q) : tCallSD sp dvs E (tR (jx X W) mr) σ H Q := by
  obtain ⟨ρ, τ, A, F0, F, Z, w, s, q⟩ := h
  refine ⟨ρ, τ, A, F0, F, Z, w, s, After.next q fun ss τ1 H1 Z1 w1 e1 q1 vs rv => ?_⟩
  exact After.ok q1 w1 _ (argRel_def (hr Z1) rv)
theorem len_rDef {n : Nat} (h : ∀ ρ τ ss τ1, mr ρ τ = .ok ss τ1 → ss.length = n) : ∀ ρ τ ss τ1, rDef mr dds ρ τ = .ok ss τ1 → ss.length = n + dds.length := fun ρ τ ss τ1 e => by
  obtain ⟨xs, τ2, h1, e⟩ := bind_ok e
  cases e
  rw [List.length_append, List.length_map, h _ _ _ _ h1]
theorem ev_callD (G : FnOk X.prog X.w X.K X.mg X.base (L2.CX X.prog X.w) k f fd ps (SpOf ⟨X.K, X.mg⟩ false ps.length mf)) (hr : Room k X.A) (hm : X.mg x = some (.ref f)) (hk : PySem.W.keepIn X.K (.ref f) = true) (hb : Binds X.K fd ps ds) (hd : Vals dvs ds) (hra : RepAll ⟨X.K, X.mg⟩ dds dvs) (tk : Takes X W) (hl : ∀ ρ τ ss τ1, rDef mr dds ρ τ = .ok ss τ1 → ss.length = ps.length)
    (ha : ER X W (e :: es) mr) (hg : Gl X x := by rfl) (hdb : (x == ("__debug__" : Str)) = false := by decide) (he : starEach (e :: es) X.env = (false, eval e X.env) :: starEach es X.env := by rfl) (hpl : (backTo pos (starEach es X.env)).any (·.1) = false := by rfl) :
    EV X W (.Call (.Name x p) (e :: es) [] pos) (eCall mf (rDef mr dds)) := pe_weak (pe_callSD G hr hg hm hk hb hd (fun σ => passAt tk σ) ha hdb he hpl) fun σ H Q q => def_args hra (call_ok hl σ H Q q)
theorem ef_callD (G : FnOk X.prog X.w X.K X.mg X.base (L2.CX X.prog X.w) k f fd ps (SpOf ⟨X.K, X.mg⟩ true ps.length mf)) (hr : Room k X.A) (hm : X.mg x = some (.ref f)) (hk : PySem.W.keepIn X.K (.ref f) = true) (hb : Binds X.K fd ps ds) (hd : Vals dvs ds) (hra : RepAll ⟨X.K, X.mg⟩ dds dvs) (tk : Takes X W) (hl : ∀ ρ τ ss τ1, rDef mr dds ρ τ = .ok ss τ1 → ss.length = ps.length)
    (ha : ER X W (e :: es) mr) (hg : Gl X x := by rfl) (hdb : (x == ("__debug__" : Str)) = false := by decide) (he : starEach (e :: es) X.env = (false, eval e X.env) :: starEach es X.env := by rfl) (hpl : (backTo pos (starEach es X.env)).any (·.1) = false := by rfl) :
    EF X W (.Call (.Name x p) (e :: es) [] pos) (eCall mf (rDef mr dds)) := pe_weak (pe_callSD G hr hg hm hk hb hd (fun σ => passAt tk σ) ha hdb he hpl) fun σ H Q q => def_args hra (callF_ok hl σ H Q q)
end

/-! ### C(e, ..) -/
def eMake (c : Str) (mf : MF) (a : SR) : SE := fun ρ τ => (a ρ τ).bind fun ss τ1 => if noIo ss = true then (match mf (.io 0 :: ss) [.ins c [] []] with
  | .ok .non [d] => .ok d τ1
  | .exc e [_] => .exc e τ1
  | _ => .bad) else .bad
theorem Wd.made {k : Kx} {A : List Addr} {F : Hp} {τ : Tau} {H Z : Hp} {x dx C : Addr} {c : Str} (w : Wd k A F τ H Z) (hx : H x = none) (hd : H dx = none) (ne : dx ≠ x) (hc : k.mg c = some (.ref C)) :
    Wd k A F τ (upd (upd H dx (.own x)) x (.ins C dx [])) Z ∧ Wd k [x] (hidA (upd (upd H dx (.own x)) x (.ins C dx [])) Z [x]) [.ins c [] []] (upd (upd H dx (.own x)) x (.ins C dx [])) Z := by
  have w1 : Wd k A F τ (upd H dx (.own x)) Z := (w.allocF (o := .own x) hd rfl).sub (same_new (none_of_same w.fh hd))
  have hx1 : upd H dx (.own x) x = none := by rw [upd_ne (Ne.symm ne)]; exact hx
  have w2 : Wd k A F τ (upd (upd H dx (.own x)) x (.ins C dx [])) Z := (w1.allocF (o := .ins C dx []) hx1 rfl).sub (same_new (none_of_same w1.fh hx1))
  have zx : Z x = none := none_of_same w.zh hx
  refine ⟨w2, ?_⟩
  have w3 := w2.pure0
  have key : ∀ {a o}, hidA (upd (upd H dx (.own x)) x (.ins C dx [])) Z [x] a = some o → hidF (upd (upd H dx (.own x)) x (.ins C dx [])) Z a = some o := fun {a o} e => by
    unfold hidA at e
    split at e
    · cases e
    · exact e
  refine ⟨w3.zh, fun a o e => w3.fh a o (key e), fun a => ?_, rfl, fun j a d h1 h2 => ?_, fun a ha => ?_, by simp, w3.tabs, fun a o e => ?_⟩
  · rcases w3.zf a with z | z
    · refine .inl ?_
      unfold hidA
      split
      · rfl
      · exact z
    · exact .inr z
  · cases j with
    | zero =>
      have e1 : x = a := by simpa using h1
      have e2 : D.ins c [] [] = d := by simpa using h2
      subst e1 e2
      exact ⟨_, upd_same, C, dx, [], rfl, hc, rfl, Reps.nil⟩
    | succ j => simp at h1
  · have e1 : a = x := by simpa using ha
    subst e1
    exact ⟨zx, if_pos (by simp)⟩
  · rcases e with e | e
    · exact w3.pl a o (.inl e)
    · exact w3.pl a o (.inr (key e))
theorem Wd.madeBack {k : Kx} {A : List Addr} {F : Hp} {τ : Tau} {H Z H2 H' Z' : Hp} {x : Addr} {d : D} (w : Wd k A F τ H Z) (w2 : Wd k A F τ H2 Z) (hx : H x = none) (w4 : Wd k [x] (hidA H2 Z [x]) [d] H' Z') (e : Same Z Z') :
    Wd k A F τ H' Z' ∧ ∃ o, OwnO k Z' d o ∧ Wd k A (upd F x o) τ H' Z' := by
  have fx : F x = none := none_of_same w.fh hx
  have ax : x ∉ A := fun ha => by
    obtain ⟨u, hu⟩ := w.a_some ha
    rw [hx] at hu; cases hu
  have fe : ∀ {b o}, b ≠ x → Z b = none → H2 b = some o → isPl o = true → H' b = some o ∧ Z' b = none := fun {b o} hb hz h1 h2 => by
    have h3 : hidA H2 Z [x] b = some o := by
      unfold hidA
      rw [if_neg (by simpa using hb)]
      exact hidF_iff.mpr ⟨hz, h1, h2⟩
    refine ⟨w4.fh b o h3, (w4.zf b).resolve_left fun z => ?_⟩
    rw [h3] at z; cases z
  obtain ⟨o, ho1, ho2⟩ := w4.io 0 x d rfl rfl
  have zx := (w4.out x (by simp)).1
  have w5 : Wd k A F τ H' Z' := by
    refine ⟨w4.zh, fun a u h => ?_, fun a => ?_, w.len, fun j a y h1 h2 => ?_, fun a ha => ?_, w.nd, w4.tabs, fun a u h => ?_⟩
    · have za : Z a = none := (w.zf a).resolve_left (fun z => by rw [h] at z; cases z)
      exact (fe (ne_of_none h fx) za (w2.fh a u h) (w.pl a u (.inr h))).1
    · cases hf : F a with
      | none => exact .inl rfl
      | some u =>
        have za : Z a = none := (w.zf a).resolve_left (fun z => by rw [hf] at z; cases z)
        exact .inr (fe (ne_of_none hf fx) za (w2.fh a u hf) (w.pl a u (.inr hf))).2
    · obtain ⟨u, h3, h4⟩ := w2.io j a y h1 h2
      have ha := List.mem_of_getElem? h1
      exact ⟨u, (fe (fun z => ax (by rw [← z]; exact ha)) (w.out a ha).1 h3 h4.pl).1, h4.mono e⟩
    · obtain ⟨u, h3, h4⟩ := w2.a_pl ha
      exact ⟨(fe (fun z => ax (by rw [← z]; exact ha)) (w.out a ha).1 h3 h4).2, (w.out a ha).2⟩
    · rcases h with h | h
      · exact w4.pl a u (.inl h)
      · exact w.pl a u (.inr h)
  refine ⟨w5, o, ho2, w5.zh, fun a u h => ?_, fun a => ?_, w5.len, w5.io, fun a ha => ⟨(w5.out a ha).1, ?_⟩, w5.nd, w5.tabs, fun a u h => ?_⟩
  · by_cases h1 : a = x
    · subst h1; rw [upd_same] at h; cases h; exact ho1
    · rw [upd_ne h1] at h; exact w5.fh a u h
  · by_cases h1 : a = x
    · subst h1; exact .inr zx
    · rw [upd_ne h1]; exact w5.zf a
  · rw [upd_ne (fun z => ax (by rw [← z]; exact ha))]
    exact (w5.out a ha).2
  · rcases h with h | h
    · exact w5.pl a u (.inl h)
    · by_cases h1 : a = x
      · subst h1; rw [upd_same] at h; cases h; exact ho2.pl
      · rw [upd_ne h1] at h; exact w5.pl a u (.inr h)
theorem ArgRel.anyA {k : Kx} {A : List Addr} {Z : Hp} : ∀ {ss : List Sv} {vs : List V}, ArgRel k [] Z ss vs → ArgRel k A Z ss vs
  | [], _, h => h
  | .fz d :: ss, _, ⟨v, r, h1, h2, h3⟩ => ⟨v, r, h1, h2, ArgRel.anyA h3⟩
  | .io j :: ss, _, ⟨a, r, h1, h2, h3⟩ => by cases h2
  | .no :: _, _, h => h.elim
  | .own _ :: _, _, h => h.elim
/-- a new instance, its __init__ behind it; what is raised is wished for at the caller's slots -/
def tMk (C : Addr) (sp : Sp) (dvs : List V) (E : L2.St → XK) (t : TA) : TE := fun σ H Q => t σ H fun vs H1 => ∀ x dx, H1 x = none → H1 dx = none → dx ≠ x →
  sp (.ref x :: (vs ++ dvs)) (upd (upd H1 dx (.own x)) x (.ins C dx [])) (fun v H2 => v = .non ∧ Q (.ref x) H2) (E σ)
section
variable {X : Cx} {W : WX} {e : Expr} {es : List Expr} {mr : SR} {pos p : Pos} {x c : Str} {f C : Addr} {fd : FuncData} {ps : List Str} {k : Nat} {mf : MF} {sp : Sp} {E : L2.St → XK} {t : TA} {dds : List D} {dvs : List V} {ds : List Value}
theorem pe_mk {CX : CXT} (M : Mk X.K C f) (G : FnOk X.prog X.w X.K X.mg X.base CX k f fd ps sp) (hr : Room (k + 1) X.A) (hg : Gl X x) (hm : X.mg x = some (.ref C)) (hb : Binds X.K fd ps ds) (hd : Vals dvs ds) (hx : ∀ σ, PassesAt CX X σ (E σ))
    (ha : PA X (e :: es) t) (hdb : (x == ("__debug__" : Str)) = false := by decide) (he : starEach (e :: es) X.env = (false, eval e X.env) :: starEach es X.env := by rfl) (hpl : (backTo pos (starEach es X.env)).any (·.1) = false := by rfl) :
    PE X (.Call (.Name x p) (e :: es) [] pos) (tMk C sp dvs E t) := by
  refine ⟨fun pins s σ H Q I h => wpAny_Call_Name_kw (ld_glob I hg hm (PySem.W.callWith_K (h₀ := X.base) I.ok.mod.kin M.kp (thn (ha.run pos pins s σ H _ I h) fun us s1 ⟨vs, H1, I1, rv, q⟩ => ⟨I1.kIn, ?_⟩) he hpl) hdb)⟩
  have q0 := q (s1.heap.objs.size + 1) s1.heap.objs.size (I1.hok.fresh (Nat.le_succ _)) (I1.hok.fresh (Nat.le_refl _)) (Nat.ne_of_lt (Nat.lt_succ_self _))
  have J := Inv.made (C := C) I1
  have rr : Vals (V.ref (s1.heap.objs.size + 1) :: (vs ++ dvs)) (Value.ref (s1.heap.objs.size + 1) :: (us ++ ds)) := .cons rfl (rv.append hd)
  have ll : (Value.ref (s1.heap.objs.size + 1) :: us ++ ds).length = ps.length := (rr.length).symm.trans (G.len _ _ _ _ q0)
  refine wpAny_call (make_map (f := f) I1.kIn M.makes M.init (beq_iff_eq.mp M.fn) (codeAny_mono (G.run _ X.stack _ _ ⟨_, []⟩ (Value.ref (s1.heap.objs.size + 1) :: (us ++ ds)) _ _ (E σ) (hr.make C us []) (J.env0.make C us []) (hb _ (Value.ref (s1.heap.objs.size + 1) :: us) J.kIn ll) rr q0) fun res s2 back => ?_))
  cases res with
  | error ex => exact hx σ pins _ _ ex s2 J back
  | ok fl =>
    cases fl with
    | next => exact back.elim
    | brk => exact back.elim
    | cont => exact back.elim
    | ret u =>
      obtain ⟨v, H2, J2, ru, ev, q2⟩ := J.after back
      subst ev
      exact ⟨ru, V.ref (s1.heap.objs.size + 1), H2, J2, rfl, q2⟩
theorem make_ok (hC : X.mg c = some (.ref C)) {n : Nat} (hra : RepAll ⟨X.K, X.mg⟩ dds dvs) (hl : ∀ ρ τ ss τ1, rDef mr dds ρ τ = .ok ss τ1 → ss.length + 1 = n) :
    ∀ σ H Q, tF (jx X W) (eMake c mf (rDef mr dds)) σ H Q → tMk C (SpOf ⟨X.K, X.mg⟩ false n mf) dvs (WE W) (tR (jx X W) mr) σ H Q := fun σ H Q ⟨ρ, τ, A, F0, F, Z, w, s, q⟩ => by
  refine ⟨ρ, τ, A, F0, F, Z, w, s, ?_⟩
  unfold eMake rDef at q
  cases hmr : mr ρ τ with
  | bad => rw [hmr] at q; exact q.elim
  | exc y τ1 => rw [hmr] at q; exact q
  | ok ss0 τ1 =>
    rw [hmr] at q
    intro H1 Z1 w1 e1 vs rv0 x dx hx hdx ne
    have hlen := hl ρ τ (ss0 ++ dds.map .fz) τ1 (by unfold rDef; rw [hmr]; rfl)
    have rv := argRel_def (hra Z1) rv0
    have q : AfterF (jx X W) A F0 F ρ σ Z (if noIo (ss0 ++ dds.map Sv.fz) = true then (match mf (.io 0 :: (ss0 ++ dds.map Sv.fz)) [.ins c [] []] with
      | .ok .non [d] => .ok d τ1
      | .exc e [_] => .exc e τ1
      | _ => .bad) else .bad) Q := q
    generalize ss0 ++ dds.map Sv.fz = ss at q rv hlen
    cases hn : noIo ss with
    | false => rw [hn] at q; exact q.elim
    | true =>
      rw [hn, if_pos rfl] at q
      obtain ⟨w2, w3⟩ := w1.made hx hdx ne (c := c) hC
      have hs : Sl (jx X W).k [x] (hidA (upd (upd H1 dx (.own x)) x (.ins C dx [])) Z1 [x]) (hidA (upd (upd H1 dx (.own x)) x (.ins C dx [])) Z1 [x]) (.io 0 :: ss) ((V.ref x :: (vs ++ dvs)).map some) Z1 := by
        have g : ArgRel (jx X W).k [x] Z1 (.io 0 :: ss) (V.ref x :: (vs ++ dvs)) := ⟨x, vs ++ dvs, rfl, rfl, (rv.noA hn).anyA⟩
        exact g.sl
      refine ⟨?_, .io 0 :: ss, [.ins c [] []], [x], _, Z1, w3, hs, ?_⟩
      · rw [← hlen, List.length_cons, ← rv.len]
      · cases hf : mf (.io 0 :: ss) [.ins c [] []] with
        | bad => rw [hf] at q; exact q.elim
        | ok d τ2 =>
          rw [hf] at q
          intro H2 Z2 v w4 e4 rv2
          cases d with
          | non =>
            cases τ2 with
            | nil => exact q.elim
            | cons d1 τ3 =>
              cases τ3 with
              | cons _ _ => exact q.elim
              | nil =>
                obtain ⟨w5, o, ho, w6⟩ := w1.madeBack w2 hx w4 e4
                exact ⟨rep_non.mp rv2, q H2 Z2 x o (none_of_same w1.fh hx) (fun ha => by
                  obtain ⟨u, hu⟩ := w1.a_some ha
                  rw [hx] at hu; cases hu) w6 (e1.trans e4) ho⟩
          | _ => exact q.elim
        | exc y τ2 =>
          rw [hf] at q
          intro cls d2 H2 Z2 w4 e4 rx
          cases τ2 with
          | nil => exact q.elim
          | cons d1 τ3 =>
            cases τ3 with
            | cons _ _ => exact q.elim
            | nil =>
              obtain ⟨w5, _⟩ := w1.madeBack w2 hx w4 e4
              obtain ⟨C', d', us, h1, h2, h3, h4, h5, h6, h7, h8⟩ := rx
              refine q cls d2 H2 Z2 w5 (e1.trans e4) ⟨C', d', us, h1, h2, h3, h4, h5, h6, ?_, h8⟩ (s.mono (e1.trans e4))
              cases hF : F d' with
              | none => rfl
              | some o' =>
                have n1 : d' ≠ x := ne_of_none hF (none_of_same w1.fh hx)
                have za : Z1 d' = none := (w1.zf d').resolve_left (fun z => by rw [hF] at z; cases z)
                have h9 : hidA (upd (upd H1 dx (.own x)) x (.ins C dx [])) Z1 [x] d' = some o' := by
                  unfold hidA
                  rw [if_neg (by simpa using n1)]
                  exact hidF_iff.mpr ⟨za, w2.fh _ _ hF, w1.pl _ _ (.inr hF)⟩
                rw [h9] at h7
                cases h7
end
end Hw
set_option maxHeartbeats 1000000
/-! Hw, part 15: instances made, their methods, their length. -/
namespace Hw
open PySem PySem.Spec L2
open PyProof.Rows (envOfC)
variable [Tb]
section
variable {X : Cx} {W : WX} {e o : Expr} {es : List Expr} {mr : SR} {m : SE} {pos p apos : Pos} {x c nm : Str} {f C : Addr} {fd : FuncData} {ps : List Str} {k : Nat} {mf : MF} {sp : Sp} {E : L2.St → XK} {t : TA} {ta : TE} {dds : List D} {dvs : List V} {ds : List Value}
/-- C(e, ..) -/
theorem ef_make (M : Mk X.K C f) (G : FnOk X.prog X.w X.K X.mg X.base (L2.CX X.prog X.w) k f fd ps (SpOf ⟨X.K, X.mg⟩ false ps.length mf)) (hr : Room (k + 1) X.A) (hm : X.mg x = some (.ref C)) (hb : Binds X.K fd ps ds) (hd : Vals dvs ds) (hra : RepAll ⟨X.K, X.mg⟩ dds dvs) (tk : Takes X W)
    (hl : ∀ ρ τ ss τ1, rDef mr dds ρ τ = .ok ss τ1 → ss.length + 1 = ps.length) (ha : ER X W (e :: es) mr) (hg : Gl X x := by rfl) (hdb : (x == ("__debug__" : Str)) = false := by decide) (he : starEach (e :: es) X.env = (false, eval e X.env) :: starEach es X.env := by rfl) (hpl : (backTo pos (starEach es X.env)).any (·.1) = false := by rfl) :
    EF X W (.Call (.Name x p) (e :: es) [] pos) (eMake x mf (rDef mr dds)) := pe_weak (pe_mk M G hr hg hm hb hd (fun σ => passAt tk σ) ha hdb he hpl) (make_ok hm hra hl)

/-! ### o.m(e, ..), o data -/
def tMth (C : Addr) (m : Str) (sp : Sp) (dvs : List V) (E : L2.St → XK) (ta : TE) (t : TA) : TE := fun σ H Q => ta σ H fun x H1 => ∃ a dx fs, x = .ref a ∧ H1 a = some (.ins C dx fs) ∧ fs.lookup m = none ∧ t σ H1 fun vs H2 => sp (.ref a :: (vs ++ dvs)) H2 Q (E σ)
theorem run_st {CX : CXT} {pins : List (Addr × Obj)} {σ : L2.St} {H : Hp} {s : Shared} {Q : VK} {us : List Value} {vs : List V} (G : FnOk X.prog X.w X.K X.mg X.base CX k f fd ps sp) (hr : Room k X.A) (hb : Binds X.K fd ps ds) (hd : Vals dvs ds) (hx : PassesAt CX X σ (E σ))
    (I : Inv X pins σ H s) (r : Vals vs us) (h : sp (vs ++ dvs) H Q (E σ)) : wpAny (model X.prog X.w) X.A (call (.ref f) us) (EP X pins σ Q) X.xe s := run_fnSD G hr hb hd hx I r h
theorem pe_mth {CX : CXT} {pl : Sem Bool} (he : PE X o ta) (c : Cls X.K C) (hm : Meth X.K C nm f) (G : FnOk X.prog X.w X.K X.mg X.base CX k f fd ps sp) (hr : Room k X.A) (hb : Binds X.K fd ps ds) (hd : Vals dvs ds) (hx : ∀ σ, PassesAt CX X σ (E σ)) (ha : PA X (e :: es) t)
    (hst : starEach (e :: es) X.env = (false, eval e X.env) :: starEach es X.env := by rfl) (hpl : (backTo pos (starEach es X.env)).any (·.1) = false := by rfl)
    (ht : eval (.Call (.Attribute o nm apos) (e :: es) [] pos) X.env = (do
      let ov ← eval o X.env
      standAt apos.atName
      let (f, first) ← holding [ov] (getMethod ov nm pl)
      callWith pos f first (backTo pos (starEach (e :: es) X.env)) (backToKw pos (keywordEach [] X.env))) := by rfl) :
    PE X (.Call (.Attribute o nm apos) (e :: es) [] pos) (tMth C nm sp dvs E ta t) :=
  ⟨fun pins s σ H Q I h => PySem.W.methodCall_KW (pl := pl) (thn (he.run pins s σ H _ I h) fun u s1 ⟨x, H1, I1, rx, a, dx, fs, ex, ea, l, q⟩ => by
    subst ex
    obtain rfl : u = Value.ref a := rx
    exact getmeth_ok I1 ea c hm l (PySem.W.callWith_K (first := [.ref a]) (h₀ := X.base) I.ok.mod.kin hm.kp (thn (ha.run pos pins s1 σ H1 _ I1 q) fun us s2 ⟨vs, H2, I2, r, q2⟩ =>
      ⟨I2.kIn, run_st (us := .ref a :: us) (vs := .ref a :: vs) G hr hb hd (hx σ) I2 (.cons rfl r) q2⟩) hst hpl)) ht⟩
theorem pe_mth0 {CX : CXT} {pl : Sem Bool} (he : PE X o ta) (c : Cls X.K C) (hm : Meth X.K C nm f) (G : FnOk X.prog X.w X.K X.mg X.base CX k f fd ps sp) (hr : Room k X.A) (hb : Binds X.K fd ps ds) (hd : Vals dvs ds) (hx : ∀ σ, PassesAt CX X σ (E σ))
    (ht : eval (.Call (.Attribute o nm apos) [] [] pos) X.env = (do
      let ov ← eval o X.env
      standAt apos.atName
      let (f, first) ← holding [ov] (getMethod ov nm pl)
      callWith pos f first (backTo pos (starEach [] X.env)) (backToKw pos (keywordEach [] X.env))) := by rfl) :
    PE X (.Call (.Attribute o nm apos) [] [] pos) (tMth C nm sp dvs E ta tNil) :=
  ⟨fun pins s σ H Q I h => PySem.W.methodCall_KW (pl := pl) (thn (he.run pins s σ H _ I h) fun u s1 ⟨x, H1, I1, rx, a, dx, fs, ex, ea, l, q⟩ => by
    subst ex
    obtain rfl : u = Value.ref a := rx
    exact getmeth_ok I1 ea c hm l (PySem.W.callWith_K0 (first := [.ref a]) I1.kIn hm.kp (run_st (us := [.ref a]) (vs := [.ref a]) G hr hb hd (hx σ) I1 (.cons rfl .nil) q))) ht⟩
/-- an instance of c whose dict has no nm -/
def isInst (c nm : Str) (d : D) : Bool := match d with
  | .ins c' fs ds => decide (c' = c) && ((fs.zip ds).lookup nm).isNone && decide (fs.length = ds.length)
  | _ => false
theorem look_none {f : Str} : ∀ {fs : List Str} {ds : List D} {vs : List V}, ds.length = vs.length → (fs.zip ds).lookup f = none → (fs.zip vs).lookup f = none
  | [], _, _, _, _ => rfl
  | g :: fs, [], [], _, h => rfl
  | g :: fs, e :: ds, v :: vs, hl, h => by
    rw [List.zip_cons_cons, List.lookup_cons] at h ⊢
    cases hg : f == g with
    | true => rw [hg] at h; cases h
    | false =>
      rw [hg] at h
      exact look_none (Nat.succ.inj hl) h
theorem inst_at {k : Kx} {Z H : Hp} {c nm : Str} {d : D} {v : V} {C : Addr} (eZ : Same Z H) (hc : k.mg c = some (.ref C)) (rv : Rep k Z d v) (h : isInst c nm d = true) : ∃ a dx fs, v = .ref a ∧ H a = some (.ins C dx fs) ∧ fs.lookup nm = none := by
  unfold isInst at h
  split at h
  · rename_i c' fs ds
    rw [Bool.and_eq_true, Bool.and_eq_true] at h
    obtain ⟨⟨h1, h2⟩, h3⟩ := h
    have h1 : c' = c := of_decide_eq_true h1
    subst h1
    obtain ⟨a, C', dx, vs, rfl, g2, g3, g4, g5⟩ := rep_ins.mp rv
    rw [hc] at g3
    cases g3
    exact ⟨a, dx, _, rfl, eZ _ _ g2, look_none g5.length (Option.isNone_iff_eq_none.mp h2)⟩
  · cases h
abbrev rSelf (d : D) (a : SR) : SR := fun ρ τ => (a ρ τ).bind fun ss τ2 => .ok (.fz d :: ss) τ2
theorem len_rSelf {d : D} {a : SR} {n : Nat} (h : ∀ ρ τ ss τ1, a ρ τ = .ok ss τ1 → ss.length + 1 = n) : ∀ ρ τ ss τ1, rSelf d a ρ τ = .ok ss τ1 → ss.length = n := fun ρ τ ss τ1 e => by
  obtain ⟨xs, τ2, g1, g2⟩ := bind_ok e
  cases g2
  rw [List.length_cons]
  exact h _ _ _ _ g1
theorem self_args {k : Kx} {W : WX} {A : List Addr} {F0 F Z : Hp} {ρ : Rho} {σ : L2.St} {τ : Tau} {d : D} {v : V} {mr : SR} {S : List V → Hp → Prop} (hra : RepAll k dds dvs) (rv : Rep k Z d v)
    (h : After ⟨k, W⟩ A F0 F ρ σ Z (rSelf d (rDef mr dds) ρ τ) fun ss _ H' Z' => ∀ vs, ArgRel k A Z' ss vs → S vs H') : After ⟨k, W⟩ A F0 F ρ σ Z (mr ρ τ) fun ss _ H' Z' => ∀ vs, ArgRel k A Z' ss vs → S (v :: (vs ++ dvs)) H' := by
  unfold rSelf rDef at h
  cases hm : mr ρ τ with
  | bad => rw [hm] at h; exact h
  | exc y τ1 => rw [hm] at h; exact h
  | ok ss τ1 =>
    rw [hm] at h
    exact fun H1 Z1 w1 e1 vs g => h H1 Z1 w1 e1 _ ⟨v, vs ++ dvs, rfl, rv.mono e1, argRel_def (hra Z1) g⟩
def eMth (c nm : Str) (mf : MF) (m : SE) (a : SR) : SE := fun ρ τ => (m ρ τ).bind fun d τ1 => if isInst c nm d = true then eCall mf (rSelf d a) ρ τ1 else .bad
theorem mth_ok {n : Nat} (hc : X.mg c = some (.ref C)) (hra : RepAll ⟨X.K, X.mg⟩ dds dvs) (hl : ∀ ρ τ ss τ1, rDef mr dds ρ τ = .ok ss τ1 → ss.length + 1 = n) :
    ∀ σ H Q, tE (jx X W) (eMth c nm mf m (rDef mr dds)) σ H Q → tMth C nm (SpOf ⟨X.K, X.mg⟩ false n mf) dvs (WE W) (tE (jx X W) m) (tR (jx X W) mr) σ H Q := fun σ H Q ⟨ρ, τ, A, F0, F, Z, w, s, q⟩ =>
  ⟨ρ, τ, A, F0, F, Z, w, s, After.next q fun d τ1 H1 Z1 w1 e1 q1 v rv => by
    split at q1
    · rename_i hi
      obtain ⟨a, dx, fs, rfl, h1, h2⟩ := inst_at w1.zh hc rv hi
      exact ⟨a, dx, fs, rfl, h1, h2, ρ, τ1, A, F0, F, Z1, w1, s.mono e1, self_args hra rv (call_at (len_rSelf hl) w1 (s.mono e1) q1)⟩
    · exact q1.elim⟩
theorem mthF_ok {n : Nat} (hc : X.mg c = some (.ref C)) (hra : RepAll ⟨X.K, X.mg⟩ dds dvs) (hl : ∀ ρ τ ss τ1, rDef mr dds ρ τ = .ok ss τ1 → ss.length + 1 = n) :
    ∀ σ H Q, tF (jx X W) (eMth c nm mf m (rDef mr dds)) σ H Q → tMth C nm (SpOf ⟨X.K, X.mg⟩ true n mf) dvs (WE W) (tE (jx X W) m) (tR (jx X W) mr) σ H Q := fun σ H Q ⟨ρ, τ, A, F0, F, Z, w, s, q⟩ =>
  ⟨ρ, τ, A, F0, F, Z, w, s, AfterF.next q fun d τ1 H1 Z1 w1 e1 q1 v rv => by
    split at q1
    · rename_i hi
      obtain ⟨a, dx, fs, rfl, h1, h2⟩ := inst_at w1.zh hc rv hi
      exact ⟨a, dx, fs, rfl, h1, h2, ρ, τ1, A, F0, F, Z1, w1, s.mono e1, self_args hra rv (callF_at (len_rSelf hl) w1 (s.mono e1) q1)⟩
    · exact q1.elim⟩
theorem ev_mth {pl : Sem Bool} (c : Str) (hC : X.mg c = some (.ref C)) (cls : Cls X.K C) (hm : Meth X.K C nm f) (G : FnOk X.prog X.w X.K X.mg X.base (L2.CX X.prog X.w) k f fd ps (SpOf ⟨X.K, X.mg⟩ false ps.length mf)) (hr : Room k X.A) (hb : Binds X.K fd ps ds) (hd : Vals dvs ds) (hra : RepAll ⟨X.K, X.mg⟩ dds dvs) (tk : Takes X W)
    (hl : ∀ ρ τ ss τ1, rDef mr dds ρ τ = .ok ss τ1 → ss.length + 1 = ps.length) (he : EV X W o m) (ha : ER X W (e :: es) mr)
    (hst : starEach (e :: es) X.env = (false, eval e X.env) :: starEach es X.env := by rfl) (hpl : (backTo pos (starEach es X.env)).any (·.1) = false := by rfl)
    (ht : eval (.Call (.Attribute o nm apos) (e :: es) [] pos) X.env = (do
      let ov ← eval o X.env
      standAt apos.atName
      let (f, first) ← holding [ov] (getMethod ov nm pl)
      callWith pos f first (backTo pos (starEach (e :: es) X.env)) (backToKw pos (keywordEach [] X.env))) := by rfl) :
    EV X W (.Call (.Attribute o nm apos) (e :: es) [] pos) (eMth c nm mf m (rDef mr dds)) := pe_weak (pe_mth he cls hm G hr hb hd (fun σ => passAt tk σ) ha hst hpl ht) (mth_ok hC hra hl)
theorem ev_mth0 {pl : Sem Bool} (c : Str) (hC : X.mg c = some (.ref C)) (cls : Cls X.K C) (hm : Meth X.K C nm f) (G : FnOk X.prog X.w X.K X.mg X.base (L2.CX X.prog X.w) k f fd ps (SpOf ⟨X.K, X.mg⟩ false ps.length mf)) (hr : Room k X.A) (hb : Binds X.K fd ps ds) (hd : Vals dvs ds) (hra : RepAll ⟨X.K, X.mg⟩ dds dvs) (tk : Takes X W)
    (hl : dds.length + 1 = ps.length) (he : EV X W o m)
    (ht : eval (.Call (.Attribute o nm apos) [] [] pos) X.env = (do
      let ov ← eval o X.env
      standAt apos.atName
      let (f, first) ← holding [ov] (getMethod ov nm pl)
      callWith pos f first (backTo pos (starEach [] X.env)) (backToKw pos (keywordEach [] X.env))) := by rfl) :
    EV X W (.Call (.Attribute o nm apos) [] [] pos) (eMth c nm mf m (rDef rNil dds)) := pe_weak (pe_mth0 he cls hm G hr hb hd (fun σ => passAt tk σ) ht) fun σ H Q q => by
  obtain ⟨ρ, τ, A, F0, F, Z, w, s, q⟩ := mth_ok (n := ps.length) hC hra (fun ρ τ ss τ1 h => by rw [len_rDef len_rNil ρ τ ss τ1 h, Nat.zero_add]; exact hl) σ H Q q
  refine ⟨ρ, τ, A, F0, F, Z, w, s, After.mono (Same.refl Z) (fun d τ H Z z v rv => ?_) q⟩
  obtain ⟨a, dx, fs, h1, h2, h3, h4⟩ := z v rv
  refine ⟨a, dx, fs, h1, h2, h3, ?_⟩
  obtain ⟨ρ, τ, A, F0, F, Z, w, s, q⟩ := h4
  exact After.ok q w [] rfl
theorem ef_mth {pl : Sem Bool} (c : Str) (hC : X.mg c = some (.ref C)) (cls : Cls X.K C) (hm : Meth X.K C nm f) (G : FnOk X.prog X.w X.K X.mg X.base (L2.CX X.prog X.w) k f fd ps (SpOf ⟨X.K, X.mg⟩ true ps.length mf)) (hr : Room k X.A) (hb : Binds X.K fd ps ds) (hd : Vals dvs ds) (hra : RepAll ⟨X.K, X.mg⟩ dds dvs) (tk : Takes X W)
    (hl : ∀ ρ τ ss τ1, rDef mr dds ρ τ = .ok ss τ1 → ss.length + 1 = ps.length) (he : EV X W o m) (ha : ER X W (e :: es) mr)
    (hst : starEach (e :: es) X.env = (false, eval e X.env) :: starEach es X.env := by rfl) (hpl : (backTo pos (starEach es X.env)).any (·.1) = false := by rfl)
    (ht : eval (.Call (.Attribute o nm apos) (e :: es) [] pos) X.env = (do
      let ov ← eval o X.env
      standAt apos.atName
      let (f, first) ← holding [ov] (getMethod ov nm pl)
      callWith pos f first (backTo pos (starEach (e :: es) X.env)) (backToKw pos (keywordEach [] X.env))) := by rfl) :
    EF X W (.Call (.Attribute o nm apos) (e :: es) [] pos) (eMth c nm mf m (rDef mr dds)) := pe_weak (pe_mth he cls hm G hr hb hd (fun σ => passAt tk σ) ha hst hpl ht) (mthF_ok hC hra hl)

/-! ### len(x), x an instance -/
theorem call_lenO {CX : CXT} {g : Addr} (hf : PySem.W.findIn X.K (.ref C) "__len__" = some (some (.ref g))) (ht : PySem.W.isFn X.K (.ref g) = true) (G : FnOk X.prog X.w X.K X.mg X.base CX k g fd ps sp) (hr : Room (k + 1) X.A) (hb : Binds X.K fd ps []) (hx : ∀ σ, PassesAt CX X σ fun _ _ _ => False) :
    CallR X (.builtin "len") fun xs H Q => ∃ a dx fs, xs = [.ref a] ∧ H a = some (.ins C dx fs) ∧ sp [.ref a] H (fun v H1 => ∃ n : Int, v = .int n ∧ 0 ≤ n ∧ n < 2 ^ 63 ∧ Q (.int n) H1) fun _ _ _ => False := by
  intro pins s σ H xs us Q I r h
  obtain ⟨a, dx, fs, rfl, ha, hs⟩ := h
  cases r with
  | cons r1 r2 =>
    cases r2
    obtain rfl := (show _ = Value.ref a from r1)
    obtain ⟨mA, O, _⟩ := ins_get I.hok ha
    obtain ⟨od, J, _⟩ := O.look
    have run : wpAny (model X.prog X.w) X.A.in1 (call (.ref g) [.ref a]) (EP X pins σ fun v H1 => ∃ n : Int, v = .int n ∧ 0 ≤ n ∧ n < 2 ^ 63 ∧ Q (.int n) H1) X.xe s := by
      have hl : ([Value.ref a] : List Value).length = ps.length := G.len _ _ _ _ hs
      refine wpAny_call (codeAny_mono (G.run X.A.in1 X.stack s H ⟨[.ref a], []⟩ [.ref a] [.ref a] _ _ hr.in1 I.env0.in1 (by have := hb s [.ref a] I.kIn (by simpa using hl); simpa using this) (.cons rfl .nil) hs) fun res s2 back => ?_)
      cases res with
      | error ex => exact hx σ pins _ _ ex s2 I back
      | ok fl =>
        cases fl with
        | next => exact back.elim
        | brk => exact back.elim
        | cont => exact back.elim
        | ret u => exact I.after back
    refine Calls.call_function_entry kind_len plain_len entry_len (args_len1 _) ?_
    unfold Builtin.«len»
    refine wpAny_bind (m := oneArg "len" _) (wpAny_pure ?_)
    refine wpAny_bind (m := callSpecial? (.ref a) (Str.ofString "__len__")) ?_
    unfold callSpecial? specialOf
    refine wpAny_bind (wpAny_bind (J.type.here ((PySem.W.looks_findIn I.kIn hf).here ?_)))
    refine wpAny_holding (wpAny_bind ((PySem.W.bind_fn I.kIn (.ref a) (beq_iff_eq.mp ht)).here ?_))
    refine wpAny_bind (wpAny_mono run (fun u s2 ⟨v, H1, I1, rv, n, e1, h0, h1, q⟩ => ?_) fun _ _ z => z)
    subst e1
    obtain ⟨t, rfl⟩ := rv
    refine wpAny_pure ?_
    refine wpAny_bind (wpAny_holding (wpAny_pure ?_))
    refine wpAny_bind (wpAny_letGo ?_)
    show wpAny _ _ (if n < 0 then _ else _) _ _ _
    rw [if_neg (by omega)]
    show wpAny _ _ (if n ≥ 2 ^ 63 then _ else _) _ _ _
    rw [if_neg (by omega)]
    exact wpAny_bind (wpAny_mkInt (wpAny_pure ⟨_, rfl, .int n, H1, I1.tok _, ⟨_, rfl⟩, q⟩))
/-- len(e) -/
def eLenO (c : Str) (mf : MF) (m : SE) : SE := fun ρ τ => (m ρ τ).bind fun d τ1 => match d with
  | .ins c' fs ds => if c' = c then (match mf [.fz d] [] with
      | .ok (.int n) [] => if 0 ≤ n ∧ n < 2 ^ 63 then .ok (.int n) τ1 else .bad
      | _ => .bad) else .bad
  | _ => .bad
theorem lenO_ok (hC : X.mg c = some (.ref C)) : ∀ σ H Q, tE (jx X W) (eLenO c mf m) σ H Q → tCB (fun xs H Q => ∃ a dx fs, xs = [.ref a] ∧ H a = some (.ins C dx fs) ∧ SpOf ⟨X.K, X.mg⟩ false 1 mf [.ref a] H (fun v H1 => ∃ n : Int, v = .int n ∧ 0 ≤ n ∧ n < 2 ^ 63 ∧ Q (.int n) H1) fun _ _ _ => False) (tCons (tE (jx X W) m) tNil) σ H Q := fun σ H Q ⟨ρ, τ, A, F0, F, Z, w, s, q⟩ =>
  ⟨ρ, τ, A, F0, F, Z, w, s, After.next q fun d τ1 H1 Z1 w1 e1 q1 v rv => by
    split at q1
    · rename_i c' fs ds
      split at q1
      · rename_i hc
        subst hc
        have rv0 := rv
        obtain ⟨a, C', dx, vs, rfl, g2, g3, g4, g5⟩ := rep_ins.mp rv
        have e2 : X.mg c' = some (.ref C') := g3
        rw [hC] at e2
        cases e2
        refine ⟨a, dx, _, rfl, w1.zh _ _ g2, rfl, [.fz (.ins c' fs ds)], [], [], _, Z1, w1.pure0, ArgRel.sl (k := ⟨X.K, X.mg⟩) (A := []) ⟨.ref a, [], rfl, rv0, rfl⟩, ?_⟩
        cases hf : mf [.fz (.ins c' fs ds)] [] with
        | bad => rw [hf] at q1; exact q1.elim
        | exc y τ2 => rw [hf] at q1; exact q1.elim
        | ok d τ2 =>
          rw [hf] at q1
          intro H2 Z2 v w2 e2 rv2
          cases d with
          | int n =>
            cases τ2 with
            | cons _ _ => exact q1.elim
            | nil =>
              have q1 : After (jx X W) A F0 F ρ σ Z1 (if 0 ≤ n ∧ n < 2 ^ 63 then .ok (.int n) τ1 else .bad) fun d _ H' Z' => ∀ v, Rep (jx X W).k Z' d v → Q v H' := q1
              by_cases hn : 0 ≤ n ∧ n < 2 ^ 63
              · rw [if_pos hn] at q1
                exact ⟨n, rep_int.mp rv2, hn.1, hn.2, q1 H2 Z2 (w1.after0 w2 (Same.refl _) e2) e2 _ (rep_int.mpr rfl)⟩
              · rw [if_neg hn] at q1
                exact q1.elim
          | _ => exact q1.elim
      · exact q1.elim
    · exact q1.elim⟩
theorem ev_lenO {g : Addr} (c : Str) (hC : X.mg c = some (.ref C)) (hf : PySem.W.findIn X.K (.ref C) "__len__" = some (some (.ref g))) (ht : PySem.W.isFn X.K (.ref g) = true) (hp : ps.length = 1) (G : FnOk X.prog X.w X.K X.mg X.base (L2.CX X.prog X.w) k g fd ps (SpOf ⟨X.K, X.mg⟩ false ps.length mf)) (hr : Room (k + 1) X.A) (hb : Binds X.K fd ps [])
    (tk : Takes X W) (he : EV X W e m) (hg : Gl X "len" := by rfl) (hm : X.mg "len" = none := by assumption) (hs : starEach [e] X.env = (false, eval e X.env) :: starEach [] X.env := by rfl) : EV X W (.Call (.Name "len" p) [e] [] pos) (eLenO c mf m) := by
  rw [hp] at G
  exact pe_weak (pe_callB (call_lenO hf ht G hr hb fun σ => fun _ _ _ e s' I c => tk e s' (XE.of_call I (fun _ _ _ h => h.elim) c)) hg hm rfl (pa_cons he pa_nil hs) (by decide) (by decide) hs rfl) (lenO_ok hC)
end
end Hw
set_option maxHeartbeats 1000000
/-! Hw, part 16: defs by their names; what is lent for the rest of a def; the law's end. -/
namespace Hw
open PySem PySem.Spec L2
open PyProof.Rows (envOfC)
open He (Fa DefD ga ma fAd SaysD cT codeOf tabOf)
variable [Tb]

/-! ### facts of the head -/
structure Sx (fa : List Fa) (fn : List DefD) (ex : PySem.W.Frag → Bool) (K : PySem.W.Frag) (mg : Str → Option Value) : Prop where
  d : SaysD fa fn K
  more : ex K = true
  glo' : ∀ x, Fa.glo x ∈ fa → mg x = some (.ref (ga K x))
  free' : ∀ x, Fa.free x ∈ fa → mg x = none
  int' : ∀ x i, Fa.int x i ∈ fa → ∃ t, mg x = some (.int i t)
section
variable {fa : List Fa} {fn : List DefD} {ex : PySem.W.Frag → Bool} {K : PySem.W.Frag} {mg : Str → Option Value}
theorem Sx.mk' {h : Heap} (X : K.In h) (G : h.Ns mainGlobals mg) (c : SaysD fa fn K) (m : ex K = true) : Sx fa fn ex K mg :=
  ⟨c, m, fun x hx => He.glo_ok X G (c.facts hx), fun x hx => He.free_ok X G (c.facts hx), fun x i hx => He.int_ok X G (c.facts hx)⟩
theorem Sx.glo (c : Sx fa fn ex K mg) (i : Nat) {x : Str} (h : fa[i]? = some (.glo x) := by rfl) : mg x = some (.ref (ga K x)) := c.glo' x (List.mem_of_getElem? h)
theorem Sx.free (c : Sx fa fn ex K mg) (i : Nat) {x : Str} (h : fa[i]? = some (.free x) := by rfl) : mg x = none := c.free' x (List.mem_of_getElem? h)
theorem Sx.int (c : Sx fa fn ex K mg) (i : Nat) {x : Str} {j : Int} (h : fa[i]? = some (.int x j) := by rfl) : ∃ t, mg x = some (.int j t) := c.int' x j (List.mem_of_getElem? h)
theorem Sx.fact (c : Sx fa fn ex K mg) (i : Nat) {f : Fa} (h : fa[i]? = some f := by rfl) : f.ok K = true := c.d.fact i h
end

/-! ### a def by its name -/
structure Df (P : Program) (w : World) (K : PySem.W.Frag) (mg : Str → Option Value) (base : Heap) (k : Nat) (x : Str) (r : Bool) (ps : List Str) (dds : List D) (mf : MF) : Prop where
  ex : ∃ (fd : FuncData) (ds : List Value) (dvs : List V), FnOk P w K mg base (L2.CX P w) k (ga K x) fd ps (SpOf ⟨K, mg⟩ r ps.length mf) ∧ Binds K fd ps ds ∧ Vals dvs ds ∧ RepAll ⟨K, mg⟩ dds dvs
  at_ : mg x = some (.ref (ga K x))
  kp : PySem.W.keepIn K (.ref (ga K x)) = true
theorem repAll_nil {k : Kx} : RepAll k [] [] := fun Z => Reps.nil
/-- arguments and how many -/
structure AN (X : Cx) (W : WX) (es : List Expr) (n : Nat) (mr : SR) : Prop where
  er : ER X W es mr
  len : ∀ ρ τ ss τ1, mr ρ τ = .ok ss τ1 → ss.length = n
section
variable {X : Cx} {W : WX} {e : Expr} {es : List Expr} {n : Nat} {ma : SE} {mr : SR} {pos p apos : Pos} {x : Str} {k j : Nat} {ps : List Str} {dds : List D} {mf : MF}
theorem an_nil : AN X W [] 0 rNil := ⟨er_nil, len_rNil⟩
theorem an_cons (ha : EV X W e ma) (hr : AN X W es n mr) (hs : starEach (e :: es) X.env = (false, eval e X.env) :: starEach es X.env := by rfl) : AN X W (e :: es) (n + 1) (rCons ma mr) := ⟨er_cons ha hr.er hs, len_rCons hr.len⟩
theorem an_io (i : Nat) (hr : AN X W es n mr) (hN : X.N[i]? = some x := by rfl) (hv : Vis X.env.scope x := by first | exact Or.inl rfl | exact Or.inr (Or.inl rfl) | exact Or.inr (Or.inr rfl)) (hd : (x == ("__debug__" : Str)) = false := by decide)
    (hcd : (x == ("__classdict__" : Str)) = false := by decide) (hs : starEach (.Name x pos :: es) X.env = (false, eval (.Name x pos) X.env) :: starEach es X.env := by rfl) : AN X W (.Name x pos :: es) (n + 1) (rIo i mr) := ⟨er_io i hr.er hN hv hd hcd hs, len_rIo hr.len⟩
/-- f(..), lent nothing; all arguments written -/
theorem ev_c (G : Df X.prog X.w X.K X.mg X.base k x false ps [] mf) (hr : Room j X.A) (ha : AN X W (e :: es) n mr) (hk : k ≤ j := by decide) (tk : Takes X W := by exact takes_of rfl rfl rfl rfl) (hn : n = ps.length := by rfl) (hg : Gl X x := by rfl) (hdb : (x == ("__debug__" : Str)) = false := by decide)
    (he : starEach (e :: es) X.env = (false, eval e X.env) :: starEach es X.env := by rfl) (hpl : (backTo pos (starEach es X.env)).any (·.1) = false := by rfl) : EV X W (.Call (.Name x p) (e :: es) [] pos) (eCall mf mr) := by
  obtain ⟨fd, ds, dvs, F, b, v, rr⟩ := G.ex
  have e0 : dvs = [] := reps_nil.mp (rr nopH)
  subst e0
  cases v
  exact ev_call F (hr.mono hk) G.at_ G.kp b tk (fun ρ τ ss τ1 h => (ha.len ρ τ ss τ1 h).trans hn) ha.er hg hdb he hpl
theorem ef_c (G : Df X.prog X.w X.K X.mg X.base k x true ps [] mf) (hr : Room j X.A) (ha : AN X W (e :: es) n mr) (hk : k ≤ j := by decide) (tk : Takes X W := by exact takes_of rfl rfl rfl rfl) (hn : n = ps.length := by rfl) (hg : Gl X x := by rfl) (hdb : (x == ("__debug__" : Str)) = false := by decide)
    (he : starEach (e :: es) X.env = (false, eval e X.env) :: starEach es X.env := by rfl) (hpl : (backTo pos (starEach es X.env)).any (·.1) = false := by rfl) : EF X W (.Call (.Name x p) (e :: es) [] pos) (eCall mf mr) := by
  obtain ⟨fd, ds, dvs, F, b, v, rr⟩ := G.ex
  have e0 : dvs = [] := reps_nil.mp (rr nopH)
  subst e0
  cases v
  exact ef_call F (hr.mono hk) G.at_ G.kp b tk (fun ρ τ ss τ1 h => (ha.len ρ τ ss τ1 h).trans hn) ha.er hg hdb he hpl
/-- .. some left to their defaults -/
theorem ev_cD (G : Df X.prog X.w X.K X.mg X.base k x false ps dds mf) (hr : Room j X.A) (ha : AN X W (e :: es) n mr) (hk : k ≤ j := by decide) (tk : Takes X W := by exact takes_of rfl rfl rfl rfl) (hn : n + dds.length = ps.length := by rfl) (hg : Gl X x := by rfl) (hdb : (x == ("__debug__" : Str)) = false := by decide)
    (he : starEach (e :: es) X.env = (false, eval e X.env) :: starEach es X.env := by rfl) (hpl : (backTo pos (starEach es X.env)).any (·.1) = false := by rfl) : EV X W (.Call (.Name x p) (e :: es) [] pos) (eCall mf (rDef mr dds)) := by
  obtain ⟨fd, ds, dvs, F, b, v, rr⟩ := G.ex
  exact ev_callD F (hr.mono hk) G.at_ G.kp b v rr tk (fun ρ τ ss τ1 h => (len_rDef ha.len ρ τ ss τ1 h).trans hn) ha.er hg hdb he hpl
theorem ef_cD (G : Df X.prog X.w X.K X.mg X.base k x true ps dds mf) (hr : Room j X.A) (ha : AN X W (e :: es) n mr) (hk : k ≤ j := by decide) (tk : Takes X W := by exact takes_of rfl rfl rfl rfl) (hn : n + dds.length = ps.length := by rfl) (hg : Gl X x := by rfl) (hdb : (x == ("__debug__" : Str)) = false := by decide)
    (he : starEach (e :: es) X.env = (false, eval e X.env) :: starEach es X.env := by rfl) (hpl : (backTo pos (starEach es X.env)).any (·.1) = false := by rfl) : EF X W (.Call (.Name x p) (e :: es) [] pos) (eCall mf (rDef mr dds)) := by
  obtain ⟨fd, ds, dvs, F, b, v, rr⟩ := G.ex
  exact ef_callD F (hr.mono hk) G.at_ G.kp b v rr tk (fun ρ τ ss τ1 h => (len_rDef ha.len ρ τ ss τ1 h).trans hn) ha.er hg hdb he hpl
/-- .. lent -/
theorem ev_cIo (G : Df X.prog X.w X.K X.mg X.base k x false ps [] mf) (hr : Room j X.A) (ha : AN X W (e :: es) n mr) (hk : k ≤ j := by decide) (tk : Takes X W := by exact takes_of rfl rfl rfl rfl) (hn : n = ps.length := by rfl) (hg : Gl X x := by rfl) (hdb : (x == ("__debug__" : Str)) = false := by decide)
    (he : starEach (e :: es) X.env = (false, eval e X.env) :: starEach es X.env := by rfl) (hpl : (backTo pos (starEach es X.env)).any (·.1) = false := by rfl) : EV X W (.Call (.Name x p) (e :: es) [] pos) (eCallIo mf mr) := by
  obtain ⟨fd, ds, dvs, F, b, v, rr⟩ := G.ex
  have e0 : dvs = [] := reps_nil.mp (rr nopH)
  subst e0
  cases v
  exact ev_callIo F (hr.mono hk) G.at_ G.kp b tk (fun ρ τ ss τ1 h => (ha.len ρ τ ss τ1 h).trans hn) ha.er hg hdb he hpl
theorem ef_cIo (G : Df X.prog X.w X.K X.mg X.base k x true ps [] mf) (hr : Room j X.A) (ha : AN X W (e :: es) n mr) (hk : k ≤ j := by decide) (tk : Takes X W := by exact takes_of rfl rfl rfl rfl) (hn : n = ps.length := by rfl) (hg : Gl X x := by rfl) (hdb : (x == ("__debug__" : Str)) = false := by decide)
    (he : starEach (e :: es) X.env = (false, eval e X.env) :: starEach es X.env := by rfl) (hpl : (backTo pos (starEach es X.env)).any (·.1) = false := by rfl) : EF X W (.Call (.Name x p) (e :: es) [] pos) (eCallIo mf mr) := by
  obtain ⟨fd, ds, dvs, F, b, v, rr⟩ := G.ex
  have e0 : dvs = [] := reps_nil.mp (rr nopH)
  subst e0
  cases v
  exact ef_callIo F (hr.mono hk) G.at_ G.kp b tk (fun ρ τ ss τ1 h => (ha.len ρ τ ss τ1 h).trans hn) ha.er hg hdb he hpl
end
section
variable {P : Program} {w : World} {K : PySem.W.Frag} {mg : Str → Option Value} {base : Heap} {k : Nat} {x qual : Str} {r : Bool} {N ps : List Str} {mb : SS} {mf : MF} {params : Arguments} {body : List Stmt} {scope : Scope} {dvs : List V} {kws : List (Str × V)} {f : Addr} {fd : FuncData}
/-- THE RULE for a def that the head tells of -/
theorem defD_ok (F : FunD K x qual params body scope dvs kws f fd) (S : FnScope N ps scope)
    (hb : ∀ (cdv : Value) (A : Around) (outer : List PySem.Env) (s : Shared) (H : Hp) (E : XK), Room k (A.deeper (envOfC qual scope s.heap.objs.size f cdv)) →
      EL (cxOf (L2.CX P w) P w K mg base N qual scope f cdv A outer s H E) (WX0 E) r body mb) : FnOk P w K mg base (L2.CX P w) (k + 1) f fd ps (SpOf ⟨K, mg⟩ r ps.length (runB r N.length mb)) :=
  F.ok S (fun vs H Q E h => h.1) fun cdv A outer s H vs Q E hr h => ⟨_, hb cdv A outer s H E hr, body_ok h⟩
/-- .. whose code object is known by its name -/
theorem defL_ok {p : Str × Option Str} (F : FunD K x qual params body scope dvs kws (fAd K p) fd) (S : FnScope N ps scope)
    (hb : ∀ (A : Around) (outer : List PySem.Env) (s : Shared) (H : Hp) (E : XK), Room k (A.deeper (envOfC qual scope s.heap.objs.size (fAd K p) (.ref (codeOf K p)))) →
      EL (cxOf (L2.CX P w) P w K mg base N qual scope (fAd K p) (.ref (codeOf K p)) A outer s H E) (WX0 E) r body mb) : FnOk P w K mg base (L2.CX P w) (k + 1) (fAd K p) fd ps (SpOf ⟨K, mg⟩ r ps.length (runB r N.length mb)) := by
  obtain ⟨oc, od, dV, kV, doc, pm, an, cdv, ct, osl, rfl, lk, hcd, _, _⟩ := F.ex
  obtain ⟨c, rfl⟩ := He.codeIn_ref hcd
  have e : codeOf K p = c := He.codeOf_eq lk rfl
  subst e
  exact fn_of lk hcd S (fun vs H Q E h => h.1) fun A outer s H vs Q E hr h => ⟨_, hb A outer s H E hr, body_ok h⟩
/-- a promise that is never asked for -/
theorem fn_bad {CX : CXT} : FnOk P w K mg base CX k f fd ps (SpOf ⟨K, mg⟩ r ps.length fun _ _ => .bad) :=
  ⟨fun vs H Q E h => h.1, fun A outer s H args us vs Q E hr he hb hv h => by
    obtain ⟨_, _, _, _, _, _, _, _, z⟩ := h
    exact z.elim⟩
/-- a def without defaults -/
theorem df_mk (F : FunD K x x params body scope [] kws (ga K x) fd) (G : FnOk P w K mg base (L2.CX P w) k (ga K x) fd ps (SpOf ⟨K, mg⟩ r ps.length mf)) (hm : mg x = some (.ref (ga K x)))
    (h : ∀ (kV doc pm : Value) (an : Option Addr) (cdv ct : Value) (us : List Value), us.length = ps.length → bindArgs (PySem.W.fnOf x x params body scope .none kV doc pm an cdv ct) ⟨us, []⟩ = pure (ps.zip us)) : Df P w K mg base k x r ps [] mf :=
  ⟨⟨fd, [], [], G, F.bindsN h, .nil, repAll_nil⟩, hm, F.kp⟩
end

/-! ### what is lent for the rest of a def -/
def sLend (i : Nat) (m : SS) : SS := fun ρ τ => match ρ[i]? with
  | some (.own d) => match m (ρ.set i (.io τ.length)) (τ ++ [d]) with
    | .ret d' τ' => if τ'.length = τ.length + 1 then .ret d' (τ'.take τ.length) else .bad
    | _ => .bad
  | _ => .bad
section
variable {k : Kx} {A : List Addr} {F0 F H Z : Hp} {ρ : Rho} {σ : L2.St} {τ : Tau}
theorem Wd.unlend {a : Addr} {τ' : Tau} (w : Wd k (A ++ [a]) F τ' H Z) (hl : τ'.length = n + 1) (hA : A.length = n) : Wd k A F (τ'.take n) H Z := by
  refine ⟨w.zh, w.fh, w.zf, by rw [List.length_take]; omega, fun j b d h1 h2 => ?_, fun b hb => w.out b (List.mem_append_left _ hb), (List.nodup_append.mp w.nd).1, w.tabs, w.pl⟩
  have hj : j < A.length := (List.getElem?_eq_some_iff.mp h1).1
  refine w.io j b d (by rw [List.getElem?_append_left hj]; exact h1) ?_
  rw [List.getElem?_take] at h2
  split at h2
  · exact h2
  · cases h2
/-- all but one -/
def lessH (F : Hp) (a : Addr) : Hp := fun b => if b = a then none else F b
theorem Wd.lend {a : Addr} {o : HO} {d : D} (w : Wd k A F τ H Z) (hF : F a = some o) (ho : OwnO k Z d o) : Wd k (A ++ [a]) (lessH F a) (τ ++ [d]) H Z := by
  have nA : a ∉ A := fun ha => by
    rw [(w.out a ha).2] at hF
    cases hF
  have lF : ∀ {b u}, lessH F a b = some u → F b = some u := fun {b u} e => by
    unfold lessH at e
    split at e
    · cases e
    · exact e
  refine ⟨w.zh, fun b u e => w.fh b u (lF e), fun b => ?_, by rw [List.length_append, List.length_append, w.len]; rfl, fun j b e h1 h2 => ?_, fun b hb => ?_, ?_, w.tabs, fun b u e => w.pl b u (e.imp id lF)⟩
  · rcases w.zf b with z | z
    · refine .inl ?_
      unfold lessH
      split
      · rfl
      · exact z
    · exact .inr z
  · by_cases hj : j < A.length
    · rw [List.getElem?_append_left hj] at h1
      rw [List.getElem?_append_left (by rw [← w.len]; exact hj)] at h2
      exact w.io j b e h1 h2
    · have hj2 : j = A.length := by
        have := (List.getElem?_eq_some_iff.mp h1).1
        rw [List.length_append, List.length_singleton] at this
        omega
      subst hj2
      rw [List.getElem?_append_right (Nat.le_refl _), Nat.sub_self] at h1
      rw [w.len, List.getElem?_append_right (Nat.le_refl _), Nat.sub_self] at h2
      cases h1
      cases h2
      exact ⟨o, w.fh a o hF, ho⟩
  · rcases List.mem_append.mp hb with h | h
    · refine ⟨(w.out b h).1, ?_⟩
      unfold lessH
      split
      · rfl
      · exact (w.out b h).2
    · have e : b = a := by simpa using h
      subst e
      refine ⟨(w.zf b).resolve_left fun z => ?_, if_pos rfl⟩
      rw [hF] at z; cases z
  · refine List.nodup_append.mpr ⟨w.nd, by simp, fun b hb c hc e => ?_⟩
    have : c = a := by simpa using hc
    subst this
    exact nA (e ▸ hb)
theorem Sl.lend {i : Nat} {a : Addr} {o : HO} {d : D} (s : Sl k A F0 F ρ σ Z) (hi : ρ[i]? = some (.own d)) (ha : σ[i]? = some (some (V.ref a))) (hF : F a = some o) (f0 : F0 a = none) : Sl k (A ++ [a]) F0 (lessH F a) (ρ.set i (.io A.length)) σ Z := by
  have hil : i < ρ.length := (List.getElem?_eq_some_iff.mp hi).1
  refine ⟨by rw [List.length_set]; exact s.len, fun j e h => ?_, fun j e h => ?_, fun j l h => ?_, fun j l e f b g1 g2 g3 g4 => ?_, fun b u hb => ?_⟩
  · by_cases hj : i = j
    · subst hj; rw [List.getElem?_set_self hil] at h; cases h
    · rw [List.getElem?_set_ne hj] at h; exact s.fz j e h
  · by_cases hj : i = j
    · subst hj; rw [List.getElem?_set_self hil] at h; cases h
    · rw [List.getElem?_set_ne hj] at h
      obtain ⟨b, u, g1, g2, g3, g4⟩ := s.own j e h
      have : b ≠ a := fun z => hj (s.ap i j d e a hi h ha (by rw [← z]; exact g1))
      exact ⟨b, u, g1, by unfold lessH; rw [if_neg this]; exact g2, g3, g4⟩
  · by_cases hj : i = j
    · subst hj
      rw [List.getElem?_set_self hil] at h
      cases h
      exact ⟨a, by rw [List.getElem?_append_right (Nat.le_refl _), Nat.sub_self]; rfl, ha⟩
    · rw [List.getElem?_set_ne hj] at h
      obtain ⟨b, g1, g2⟩ := s.io j l h
      exact ⟨b, by rw [List.getElem?_append_left (List.getElem?_eq_some_iff.mp g1).1]; exact g1, g2⟩
  · have n1 : i ≠ j := fun z => by subst z; rw [List.getElem?_set_self hil] at g1; cases g1
    have n2 : i ≠ l := fun z => by subst z; rw [List.getElem?_set_self hil] at g2; cases g2
    rw [List.getElem?_set_ne n1] at g1
    rw [List.getElem?_set_ne n2] at g2
    exact s.ap j l e f b g1 g2 g3 g4
  · have : b ≠ a := fun z => by rw [z, f0] at hb; cases hb
    unfold lessH
    rw [if_neg this]
    exact s.f0 b u hb
end
theorem el_lend {X : Cx} {W : WX} {rest : List Stmt} {m : SS} (i : Nat) (h : EL X W false rest m) : EL X W false rest (sLend i m) := pss_weak h fun D σ H ⟨ρ, τ, A, F0, F, Z, w, s, q⟩ => by
  unfold sLend at q
  split at q
  · rename_i d hd
    obtain ⟨a, o, h1, h2, h3, h4⟩ := s.own i d hd
    refine ⟨ρ.set i (.io τ.length), τ ++ [d], A ++ [a], F0, lessH F a, Z, w.lend h2 h4, by rw [← w.len]; exact s.lend hd h1 h2 h3, ?_⟩
    cases hm : m (ρ.set i (.io τ.length)) (τ ++ [d]) with
    | ret d' τ' =>
      rw [hm] at q
      dsimp only at q
      split at q
      · rename_i hl
        have q : ∀ H' Z' F' v, Wd (jx X W).k A F' (τ'.take τ.length) H' Z' → Same F0 F' → Same Z Z' → Rep (jx X W).k Z' d' v → D.rt v H' := q
        exact fun H' Z' F' v w' f' e' rv => q H' Z' F' v (w'.unlend hl w.len) f' e' rv
      · exact q.elim
    | nx _ _ => rw [hm] at q; exact q.elim
    | brk _ _ => rw [hm] at q; exact q.elim
    | cnt _ _ => rw [hm] at q; exact q.elim
    | exc _ _ _ => rw [hm] at q; exact q.elim
    | bad => rw [hm] at q; exact q.elim
  · exact q.elim
/-- an own container becomes data ahead of the rest -/
theorem el_frz {X : Cx} {W : WX} {r : Bool} {rest : List Stmt} {m : SS} (i : Nat) (h : EL X W r rest m) : EL X W r rest (sFrz i m) := pss_weak h fun D σ H ⟨ρ, τ, A, F0, F, Z, w, s, q⟩ => by
  obtain ⟨F', Z', w', s', e⟩ := frz_ok (i := i) w s
  exact ⟨_, τ, A, F0, F', Z', w', s', AfterS.mono e q⟩

/-! ### the law -/
/-- the part of a heap that is read as data -/
def plH (H : Hp) : Hp := fun b => match H b with
  | some o => if isPl o = true then some o else none
  | none => none
theorem plH_iff {H : Hp} {b : Addr} {o : HO} : plH H b = some o ↔ H b = some o ∧ isPl o = true := by
  unfold plH
  cases hb : H b with
  | none => simp
  | some u =>
    dsimp only
    by_cases hu : isPl u = true
    · rw [if_pos hu]
      constructor
      · intro e; cases e; exact ⟨rfl, hu⟩
      · intro e; exact e.1
    · rw [if_neg hu]
      constructor
      · intro e; cases e
      · intro e; cases e.1; exact absurd e.2 hu
theorem law_sp {k : Kx} {mf : MF} {H : Hp} {a : Addr} {ns : List Int} (ht : LamX.Tabs Tb.T H) (hS : SqL k.K H a (ns.map V.int)) (hm : mf [.fz (.scr ns)] [] = .ok (.bl true) []) : SpOf k false 1 mf [.ref a] H (fun v _ => v = .bl true) fun _ _ _ => False := by
  have zH : Same (plH H) H := fun b o e => (plH_iff.mp e).1
  have hS' : SqL k.K (plH H) a (ns.map V.int) := by
    rcases hS with (h | ⟨o, h⟩) | h
    · exact .inl (.inl (plH_iff.mpr ⟨h, rfl⟩))
    · exact .inl (.inr ⟨o, plH_iff.mpr ⟨h, rfl⟩⟩)
    · exact .inr h
  refine ⟨rfl, [.fz (.scr ns)], [], [], nopH, plH H, ⟨zH, fun b o e => (nomatch e), fun b => .inl rfl, rfl, fun j b d e => (nomatch e), fun b hb => (nomatch hb), List.nodup_nil, ht, fun b o e => ?_⟩, ?_, ?_⟩
  · rcases e with e | e
    · exact (plH_iff.mp e).2
    · cases e
  · exact ArgRel.sl (A := []) ⟨.ref a, [], rfl, rep_scr.mpr ⟨a, rfl, hS'⟩, rfl⟩
  · rw [hm]
    exact fun H' Z' v w' e' rv => rep_bl.mp rv
end Hw
set_option maxHeartbeats 1000000
/-! Hw, part 17: own errors by their names; classes by their names; what a try tells, by name. -/
namespace Hw
open PySem PySem.Spec L2
open PyProof.Rows (envOfC)
open He (Fa DefD ga ma fAd SaysD cT codeOf tabOf eqO eqO_ok)
variable [Tb]
theorem u65 {k : Nat} {A : Around} (r : Room k A) : A.units + 65 < cLine := by have := r.un; omega
theorem u1 {k : Nat} {A : Around} (r : Room k A) : A.units + 1 < cLine := by have := r.un; omega

/-! ### errors -/
def oexB (K : PySem.W.Frag) (C : Addr) : Bool := (match K.lookup C with
  | some ⟨.type t, _, .cls cd, sl⟩ => (match cd.mro, sl.toList with
    | .ref C' :: bm, [_, _, _, _, some (.builtin n), _] => decide (t = "type") && (decide (C' = C) && (decide (n = "ValueError.__new__") && (!cd.hasDel && (cd.hasDict && PySem.HandSPX.refsVE bm))))
    | _, _ => false)
  | _ => false) && (eqO (PySem.W.findIn K (.ref C) "__setattr__") (some (some (.builtin "object.__setattr__"))) && (decide (PySem.W.subIn K (.ref C) (.type "BaseException") = some true) && (decide (PySem.W.typeIn K (.ref C) = some (.type "type")) && PySem.W.keepIn K (.ref C))))
theorem oexB_ok {K : PySem.W.Frag} {C : Addr} (h : oexB K C = true) : OexC K C := by
  unfold oexB at h
  obtain ⟨h1, h2⟩ := He.ba h
  obtain ⟨h3, h4⟩ := He.ba h2
  obtain ⟨h5, h6⟩ := He.ba h4
  obtain ⟨h7, h8⟩ := He.ba h6
  refine ⟨?_, eqO_ok h3, of_decide_eq_true h5, of_decide_eq_true h7, h8⟩
  split at h1
  · rename_i t dd cd sl ho
    split at h1
    · rename_i C' bm k0 k1 k2 k3 n k5 hm hs
      simp only [Bool.and_eq_true, decide_eq_true_eq, Bool.not_eq_true'] at h1
      obtain ⟨rfl, rfl, rfl, hdel, hdict, hr⟩ := h1
      obtain ⟨nm, bs, mro, ns, qn, hd, sn, sub, ab, col, del⟩ := cd
      dsimp only at hm hdel hdict
      subst hm hdel hdict
      have hsl : sl = #[k0, k1, k2, k3, some (.builtin "ValueError.__new__"), k5] := by
        obtain ⟨l⟩ := sl
        simp only at hs
        rw [hs]
      subst hsl
      exact ⟨nm, qn, ns, bs, bm, sn, sub, ab, col, dd, k0, k1, k2, k3, k5, ho, hr⟩
    · cases h1
  · cases h1
theorem fun_of {K : PySem.W.Frag} {x qual : Str} {st : Stmt} {kws : List (Str × V)} {f : Addr} {fd : FuncData} (F : FunD K x qual (defArgs st) (defBody st) (defScope st) [] kws f fd) : Fun K x qual st f fd := by
  obtain ⟨oc, od, dV, kV, doc, pm, an, cdv, ct, osl, rfl, lk, hcd, hD, _⟩ := F.ex
  rcases hD with ⟨_, rfl⟩ | ⟨e, _⟩
  · exact ⟨⟨oc, od, kV, doc, pm, an, cdv, ct, osl, rfl, lk, hcd⟩, F.kp⟩
  · exact absurd rfl e
/-- raise x(..) by its name -/
structure Rz (P : Program) (w : World) (K : PySem.W.Frag) (mg : Str → Option Value) (base : Heap) (x : Str) (n : Nat) (fs : List Str) (vals : List D → List D) : Prop where
  ex : ∃ (fI : Addr) (fd : FuncData) (ps : List Str) (fsV : List V → List (Str × V)), PySem.W.findIn K (.ref (ga K x)) "__init__" = some (some (.ref fI)) ∧ PySem.W.typeIn K (.ref fI) = some (.type "function") ∧
    FnOk P w K mg base CX0 1 fI fd ps (SpInit K (ga K x) n fsV) ∧ Binds K fd ps [] ∧ StoreD n fsV fs vals
  T : OexC K (ga K x)
  at_ : mg x = some (.ref (ga K x))
theorem es_rz {X : Cx} {W : WX} {r : Bool} {e : Expr} {es : List Expr} {m : SA} {x : Str} {p pos pos' : Pos} {n j : Nat} {fs : List Str} {vals : List D → List D} (R : Rz X.prog X.w X.K X.mg X.base x n fs vals) (hr : Room j X.A) (ha : EAV X W (e :: es) m) (hj : 2 ≤ j := by decide) (tk : Takes X W := by exact takes_of rfl rfl rfl rfl) (hn2 : n ≤ 1000 := by decide) (hg : Gl X x := by rfl) (hdb : (x == ("__debug__" : Str)) = false := by decide) (hc : X.calm = true := by rfl)
    (he : starEach (e :: es) X.env = (false, eval e X.env) :: starEach es X.env := by rfl) (hpl : (backTo pos (starEach es X.env)).any (·.1) = false := by rfl) :
    ES X W r (.Raise (some (.Call (.Name x p) (e :: es) [] pos)) none pos') (sRaise x n fs vals m) := by
  obtain ⟨fI, fd, ps, fsV, iC, tI, G, b, st⟩ := R.ex
  exact es_raise R.T iC tI G (hr.mono hj) b R.at_ st tk ha hn2 hg hdb hc he hpl
/-- a method's def is a plain def of the class -/
def initB (K : PySem.W.Frag) (x : Str) : Bool := eqO (PySem.W.findIn K (.ref (ga K x)) "__init__") (some (some (.ref (ma K (ga K x) "__init__")))) && decide (PySem.W.typeIn K (.ref (ma K (ga K x) "__init__")) = some (.type "function"))
theorem initB_ok {K : PySem.W.Frag} {x : Str} (h : initB K x = true) : PySem.W.findIn K (.ref (ga K x)) "__init__" = some (some (.ref (ma K (ga K x) "__init__"))) ∧ PySem.W.typeIn K (.ref (ma K (ga K x) "__init__")) = some (.type "function") := by
  obtain ⟨h1, h2⟩ := He.ba h
  exact ⟨eqO_ok h1, of_decide_eq_true h2⟩
/-- what of an error class is asked: it is one, its __init__, its fields -/
def errB (K : PySem.W.Frag) (x : Str) (fs : List Str) : Bool := oexB K (ga K x) && (initB K x && fs.all fun f => decide (PySem.W.findIn K (.ref (ga K x)) f = some none))
section
variable {P : Program} {w : World} {K : PySem.W.Frag} {mg : Str → Option Value} {base : Heap} {x qual tag p p' : Str} {st : Stmt} {fd : FuncData} {fs : List Str} {j : Nat} {p1 p2 p3 p4 q1 q2 q3 q4 r1 r2 r3 r4 : Pos}
theorem errB_no (h : errB K x fs = true) {f : Str} (hf : f ∈ fs) : PySem.W.findIn K (.ref (ga K x)) f = some none := of_decide_eq_true (List.all_eq_true.mp (He.ba (He.ba h).2).2 f hf)
theorem rz1 (h : errB K x ["tag", p] = true) (hm : mg x = some (.ref (ga K x))) (F : FunD K "__init__" qual (defArgs st) (defBody st) (defScope st) [] [] (ma K (ga K x) "__init__") fd) (S : FnScope ["self", p] ["self", p] (defScope st))
    (hb : defBody st = [.Assign [.Attribute (.Name "self" p1) "tag" p2] (.Constant (.str tag) j p3) p4, .Assign [.Attribute (.Name "self" q1) p q2] (.Name p q3) q4])
    (hbi : ∀ (kV doc pm : Value) (an : Option Addr) (cdv ct : Value) (us : List Value), us.length = 2 → bindArgs (PySem.W.fnOf "__init__" qual (defArgs st) (defBody st) (defScope st) .none kV doc pm an cdv ct) ⟨us, []⟩ = pure ((["self", p] : List Str).zip us))
    (hv : Vis (defScope st) "self" := by first | exact Or.inl rfl | exact Or.inr (Or.inl rfl)) (hp : Vis (defScope st) p := by first | exact Or.inl rfl | exact Or.inr (Or.inl rfl)) (hd1 : (p == ("__debug__" : Str)) = false := by decide) (hd2 : (p == ("__classdict__" : Str)) = false := by decide) :
    Rz P w K mg base x 1 [p, "tag"] fun ds => [ds.getD 0 .non, .str tag] :=
  have i := initB_ok (He.ba (He.ba h).2).1
  ⟨⟨_, fd, _, _, i.1, i.2, ok_init1 (fun_of F) S hb hv hp hd1 hd2 (errB_no h (by simp)) (errB_no h (by simp)), F.bindsN hbi, store1⟩, oexB_ok (He.ba h).1, hm⟩
theorem rz2 (h : errB K x ["tag", p, p'] = true) (hm : mg x = some (.ref (ga K x))) (F : FunD K "__init__" qual (defArgs st) (defBody st) (defScope st) [] [] (ma K (ga K x) "__init__") fd) (S : FnScope ["self", p, p'] ["self", p, p'] (defScope st))
    (hb : defBody st = [.Assign [.Attribute (.Name "self" p1) "tag" p2] (.Constant (.str tag) j p3) p4, .Assign [.Attribute (.Name "self" q1) p q2] (.Name p q3) q4, .Assign [.Attribute (.Name "self" r1) p' r2] (.Name p' r3) r4])
    (hbi : ∀ (kV doc pm : Value) (an : Option Addr) (cdv ct : Value) (us : List Value), us.length = 3 → bindArgs (PySem.W.fnOf "__init__" qual (defArgs st) (defBody st) (defScope st) .none kV doc pm an cdv ct) ⟨us, []⟩ = pure ((["self", p, p'] : List Str).zip us))
    (hv : Vis (defScope st) "self" := by first | exact Or.inl rfl | exact Or.inr (Or.inl rfl)) (hp : Vis (defScope st) p := by first | exact Or.inl rfl | exact Or.inr (Or.inl rfl)) (hp' : Vis (defScope st) p' := by first | exact Or.inl rfl | exact Or.inr (Or.inl rfl))
    (hd1 : (p == ("__debug__" : Str)) = false := by decide) (hd2 : (p == ("__classdict__" : Str)) = false := by decide) (hd3 : (p' == ("__debug__" : Str)) = false := by decide) (hd4 : (p' == ("__classdict__" : Str)) = false := by decide) :
    Rz P w K mg base x 2 [p', p, "tag"] fun ds => [ds.getD 1 .non, ds.getD 0 .non, .str tag] :=
  have i := initB_ok (He.ba (He.ba h).2).1
  ⟨⟨_, fd, _, _, i.1, i.2, ok_init2 (fun_of F) S hb hv hp hp' hd1 hd2 hd3 hd4 (errB_no h (by simp)) (errB_no h (by simp)) (errB_no h (by simp)), F.bindsN hbi, store2⟩, oexB_ok (He.ba h).1, hm⟩
end

/-! ### what a try tells, by name -/
def Trd (X : Cx) (x a : Str) (cl : Clauses) (w1 w2 : Str) : Prop := ∃ (pg : Arguments) (bg : List Stmt) (sg : Scope) (dV kV doc pm cdv ct oc : Value) (an od : Option Addr) (osl : Array (Option Value)) (Ng : List Str),
  PySem.W.keepIn X.K (.ref (ga X.K x)) = true ∧ X.K.lookup (ga X.K x) = some ⟨oc, od, .func (PySem.W.fnOf x x pg bg sg dV kV doc pm an cdv ct), osl⟩ ∧ PySem.W.codeIn X.K cdv x = true ∧ L2.Binds X.K (PySem.W.fnOf x x pg bg sg dV kV doc pm an cdv ct) [a] [] ∧
    FnScope Ng [a] sg ∧ Ng[0]? = some a ∧ Vis sg a ∧ ∀ q : Str, LamX.GivesTo X Ng x sg (ga X.K x) cdv bg a q (TTry X.K cl w1 w2)
section
variable {X : Cx} {W : WX}
theorem trd_mk {x a : Str} {cl : Clauses} {w1 w2 : Str} {st : Stmt} {kws : List (Str × V)} {fd : FuncData} {Ng : List Str} (F : FunD X.K x x (defArgs st) (defBody st) (defScope st) [] kws (ga X.K x) fd) (S : FnScope Ng [a] (defScope st)) (h0 : Ng[0]? = some a) (hv : Vis (defScope st) a)
    (hb : ∀ (kV doc pm : Value) (an : Option Addr) (cdv ct : Value) (us : List Value), us.length = 1 → bindArgs (PySem.W.fnOf x x (defArgs st) (defBody st) (defScope st) .none kV doc pm an cdv ct) ⟨us, []⟩ = pure (([a] : List Str).zip us))
    (hG : ∀ (cdv : Value) (q : Str), LamX.GivesTo X Ng x (defScope st) (ga X.K x) cdv (defBody st) a q (TTry X.K cl w1 w2)) : Trd X x a cl w1 w2 := by
  have b := FunD.bindsN (ps := [a]) F hb
  have kp := F.kp
  obtain ⟨oc, od, dV, kV, doc, pm, an, cdv, ct, osl, rfl, lk, hcd, hD, _⟩ := F.ex
  exact ⟨_, _, _, dV, kV, doc, pm, cdv, ct, oc, an, od, osl, Ng, kp, lk, hcd, b, S, h0, hv, hG cdv⟩
theorem ev_trd {tab : List (Str × List Str)} {cl : Clauses} {w1 w2 : Str} {m : SE} {x a : Str} {c P : Addr} {k j : Nat} {params : Arguments} {body : Expr} {scope : Scope} {p lpos pos : Pos} (T : Trd X x a cl w1 w2) (ht : ∀ c fs, (c, fs) ∈ tab → ∀ C, X.mg c = some (.ref C) → TellOk X.K cl C fs) (hm : X.mg x = some (.ref (ga X.K x)))
    (TB : LamX.TabB X.base X.mg c P) (hcode : X.env.code = .ref c) (hmT : (P, X.env.qual ++ "<lambda>") ∈ Tb.T) (hu : ∀ p ∈ Tb.T, p.1 = P → p.2 = X.env.qual ++ "<lambda>") (hr : Room j X.A) (L : LamX.LamS X.env.scope scope)
    (hbind : ∀ (q : Str) (cl : List (Str × Addr)) (pm cv ctv : Value), bindArgs (PySem.W.kla_fn "<lambda>" q params body scope cl pm cv ctv) ⟨[], []⟩ = pure [])
    (hbody : ∀ (A : Around) (outer : List PySem.Env) (s : Shared) (H : Hp) (E : XK) (f c' : Addr), Room k (A.deeper (LamX.lamEnv X scope s.heap.objs.size f c')) → EV (LamX.lamCx X A outer s H E scope f c') (WX0 E) body m) (hj : k + 2 ≤ j := by decide) (hg : Gl X x := by rfl) (hdef : defaultsOf params X.env = ([], []) := by rfl)
    (hdb : (x == ("__debug__" : Str)) = false := by decide) (hd : (a == ("__debug__" : Str)) = false := by decide) (hcd : (a == ("__classdict__" : Str)) = false := by decide) :
    EV X W (.Call (.Name x p) [.Lambda params body scope lpos] [] pos) (eTried tab w1 w2 m) := by
  obtain ⟨pg, bg, sg, dV, kV, doc, pm, cdv, ct, oc, an, od, osl, Ng, hk, lk, hcg, hb, Sg, hNg, hva, hG⟩ := T
  exact ev_tried ht hg hm hk lk hcg hb Sg hNg hva (hG _) TB hcode hmT hu (hr.mono hj) L hdef hbind hbody hdb hd hcd
end

/-! ### a class of the module by its name -/
structure Cz (K : PySem.W.Frag) (mg : Str → Option Value) (c : Str) (fs : List Str) : Prop where
  at_ : mg c = some (.ref (ga K c))
  cls : Cls K (ga K c)
  no : ∀ f ∈ fs, NoAttr K (ga K c) f
theorem Cz.fld {K : PySem.W.Frag} {mg : Str → Option Value} {c : Str} {fs : List Str} (z : Cz K mg c fs) (f : Str) (h : f ∈ fs := by simp) : FldK K mg c f := fun C hC => by
  rw [z.at_] at hC
  cases hC
  exact ⟨z.cls, z.no f h⟩
/-- keyword-only defaults that are the empty tuple -/
def kwAt (p : Str × Option Str) (x : Str) (K : PySem.W.Frag) : Addr := match K.lookup (fAd K p) with
  | some ⟨_, _, .func fd, _⟩ => (match fd.kwdefaults with
    | .ref D => (match PySem.W.nsIn K D x with
      | some (some (.ref a)) => a
      | _ => 0)
    | _ => 0)
  | _ => 0
def tup0B (K : PySem.W.Frag) (a : Addr) : Bool := match K.lookup a with
  | some ⟨.type c, _, .seq its _, _⟩ => decide (c = "tuple") && its.isEmpty
  | _ => false
theorem tup0B_ok {K : PySem.W.Frag} {a : Addr} (h : tup0B K a = true) (H : Hp) : SqT K H a [] := by
  unfold tup0B at h
  split at h
  · rename_i c dd its n sl hk
    obtain ⟨h1, h2⟩ := He.ba h
    have e : its = #[] := Array.isEmpty_iff.mp h2
    subst e
    exact .inr ⟨_, #[], n, hk, congrArg Value.type (of_decide_eq_true h1), rfl, Nat.zero_le _, .nil⟩
  · cases h
theorem rep_tup0 {K : PySem.W.Frag} {mg : Str → Option Value} {a : Addr} (h : tup0B K a = true) : RepAll ⟨K, mg⟩ [.ctup []] [.ref a] := fun Z => Reps.cons (rep_ctup.mpr ⟨a, rfl, tup0B_ok h Z⟩) Reps.nil
end Hw
set_option maxHeartbeats 1000000
/-! Hw, part 18: enumerate of a tuple; list of a dict, a dict walked; sorted; own sums. -/
namespace PySem
open Sem (wp)
set_option maxHeartbeats 1000000 in
theorem hw_enum_new {v : Value} {o : Obj} {H : Heap → Prop} (B : Begins v o H) :
    Meets (Builtin.«enumerate.__new__» ⟨[.type "enumerate", v], []⟩) (fun _ R s => H s.heap ∧
      R (.ok (.ret (.ref (s.heap.push o).objs.size))) { s with heap := (s.heap.push o).push { cls := .type "enumerate", data := .fields #[.none, .bool false, .ref s.heap.objs.size, rawInt 0, .none, .none] } }) :=
  .of_wp fun prog w A R s h => by
    obtain ⟨hp, g, d, tk, os⟩ := s; obtain ⟨b1, h⟩ := h
    have hw_sub := sub_enumerate
    have hw_it : ∀ {A' : Around} {E : Value → Shared → Prop} {Q : Value → Shared → Prop}, Q (.ref hp.objs.size) ⟨hp.push o, g, d, tk, os⟩ → wpAny (model prog w) A' (pyIter v) Q E ⟨hp, g, d, tk, os⟩ := fun q => B.iter _ _ _ _ ⟨hp, g, d, tk, os⟩ _ b1 q
    wp_walk using hw_it
    refine wpAny_stack_any fun st => wpAny_pure ?_
    split
    · rename_i cl _ _ _ _ _
      cases (cl == Value.type "enumerate") <;> (wp_walk using hw_it; exact ⟨_, rfl, h⟩)
    · wp_walk using hw_it
      exact ⟨_, rfl, h⟩
theorem hw_enum_begins {prog : Program} {w : World} {A : Around} {E : Value → Shared → Prop} {s : Shared} {v : Value} {o : Obj} {H : Heap → Prop} {Q : Value → Shared → Prop} (B : Begins v o H) (h1 : H s.heap)
    (h : ∀ g, IsEnum g (s.heap.objs.size + 1) s.heap.objs.size 0 .none → g.get? s.heap.objs.size = some o → (∀ b u, s.heap.get? b = some u → g.get? b = some u) → Q (.ref (s.heap.objs.size + 1)) { s with heap := g }) :
    wpAny (model prog w) A (call (.type "enumerate") [v]) Q E s := by
  have sz : (s.heap.push o).objs.size = s.heap.objs.size + 1 := Heap.size_push ..
  refine callType_new F.called_enumerate (by decide) (F.typeCall_enumerate_1 _) (F.newCall_enumerate_1 _) (fun z => F.args_object_init_2 z _) F.entry_enumerate_new (hw_enum_new B) ⟨h1, ?_⟩
  show _ ∧ _
  rw [sz]
  have top : IsEnum ((s.heap.push o).push { cls := .type "enumerate", data := .fields #[.none, .bool false, .ref s.heap.objs.size, rawInt 0, .none, .none] }) (s.heap.objs.size + 1) s.heap.objs.size 0 .none := by
    have e := Heap.get?_push_size (s.heap.push o) (o := { cls := .type "enumerate", data := .fields #[.none, .bool false, .ref s.heap.objs.size, rawInt 0, .none, .none] }) rfl
    rwa [sz] at e
  exact ⟨⟨_, top, rfl⟩, h _ top (Heap.get?_push_of_some _ (Heap.get?_push_size _ B.free)) fun b u x => Heap.get?_push_of_some _ (Heap.get?_push_of_some _ x)⟩
end PySem
namespace Hw
open PySem PySem.Spec L2
open PyProof.Rows
open He (Fa DefD ga ma fAd)
variable [Tb]

/-! ### enumerate(tuple) -/
/-- the tuple at a, each item in a new pair -/
def Iten (K : PySem.W.Frag) (a : Addr) : It :=
  ⟨fun i H => ∃ (xs : List V) (x : V), SqT K H a xs ∧ xs[i]? = some x, fun i H v H' => ∃ T x, v = .ref T ∧ H T = none ∧ H' = upd H T (.tup [.int (i : Nat), x]) ∧ ∀ xs, SqT K H a xs → xs[i]? = some x, fun i H => ∃ xs : List V, SqT K H a xs ∧ xs.length ≤ i⟩
theorem turn_enumT {P : Program} {w : World} {K : PySem.W.Frag} {elts : List Expr} {kk : Nat} {tpos : Pos} (a e it : Addr) (hne : e ≠ it) (hait : a ≠ it) (hae : a ≠ e) :
    Turn P w K (.Tuple elts kk tpos) (Iten K a) [e, it] e (fun i h => (∃ old, IsEnum h e it ((i : Nat) : Int) old) ∧ h.IsTupleIter it a i) where
  mem := List.mem_cons_self
  obj := fun i h st b hb => by
    obtain ⟨⟨old, he⟩, o, ho, hc, hd⟩ := st
    rcases List.mem_cons.mp hb with z | z
    · rw [z]; exact ⟨_, he, fun v q => nomatch q⟩
    · rw [List.mem_singleton.mp z]; exact ⟨o, ho, fun v q => by rw [hd] at q; cases q⟩
  keep := fun i h h' st k => let ⟨⟨old, he⟩, hi⟩ := st; ⟨⟨old, k e List.mem_cons_self _ he⟩, hi.at fun o q => k it (by simp) o q⟩
  item := by
    intro X hP hw hK hc i pins s σ H E I hf st hg
    subst hP hw hK
    obtain ⟨⟨old, he⟩, hit⟩ := st
    obtain ⟨xs, x, hq, hx⟩ := hg
    obtain ⟨its, rv, p, hz⟩ := I.tuple hq
    obtain ⟨u, hu, ru⟩ := rv.get hx
    have el : e < s.heap.objs.size := Heap.lt_size he
    have il : it < s.heap.objs.size := by
      obtain ⟨_, q, _⟩ := hit
      exact Heap.lt_size q
    have pt : s.heap.IsTuple a its.toArray := p
    have hlt : i < its.toArray.size := by
      rw [List.size_toArray, ← rv.length]
      exact (List.getElem?_eq_some_iff.mp hx).1
    refine wpAny_pyNext_enum_itemD (Draws.tuple (prog := X.prog) (w := X.w) (A := X.A.in1) (show X.A.in1.handled = none from I.ok.hd hc) it a hait its.toArray) he ⟨hit, pt⟩ hlt hne (by
      simp only [List.mem_cons, List.not_mem_nil, or_false, not_or]
      exact ⟨hne, Ne.symm hae⟩) fun y h1 tk hy ho hst hT hsz hk => ?_
    have ey : y = u := by
      have e1 : its.toArray[i]? = some y := hy
      rw [show its.toArray[i]? = some u by simpa using hu] at e1
      exact (Option.some.inj e1).symm
    subst ey
    refine ⟨_, rfl, wpAny_letOwnedTupleGo_enum (s := { s with heap := h1, toks := tk + 1 }) ho fun h2 he2 sb => ?_⟩
    have hT2 : h2.get? s.heap.objs.size = some { cls := .type "tuple", data := .seq #[.int i tk, y] } := (sb.2 _ (Nat.ne_of_gt el)).trans hT
    have new : ObjOk X.prog X.w (upd H s.heap.objs.size (.tup [.int (i : Nat), x])) h2 s.heap.objs.size (.tup [.int (i : Nat), x]) :=
      ⟨by show 2 ≤ sizeLine; decide, [.int i tk, y], .cons ⟨_, rfl⟩ (.cons ru .nil), ⟨_, hT2, rfl, _, rfl⟩⟩
    have J : Inv X pins σ (upd H s.heap.objs.size (.tup [.int (i : Nat), x])) { s with heap := h2, toks := tk + 1 } :=
      I.turnedNew (ch := [e, it]) (fun b ob hb q => (sb.2 b (fun z => hb (by simp [z]))).trans (hk b ob (fun z => hb (by simp [z])) (fun z => hb (by simp [z])) q)) hf (Nat.le_refl _) new
    refine ⟨.ref s.heap.objs.size, _, J, rfl, ⟨_, x, rfl, I.hok.fresh (Nat.le_refl _), rfl, fun ys hys => by rw [I.tuple_inj hys hq]; exact hx⟩, ⟨⟨y, ?_⟩, hst.1.at fun o q => (sb.2 it (Ne.symm hne)).trans q⟩, fun b hb => ?_⟩
    · have e1 : ((i + 1 : Nat) : Int) = (i : Int) + 1 := by omega
      rw [e1]; exact he2
    · have bl : b < s.heap.objs.size := by
        rcases List.mem_cons.mp hb with z | z
        · rw [z]; exact el
        · rw [List.mem_singleton.mp z]; exact il
      rw [upd_ne (Nat.ne_of_lt bl)]
      exact (hf b hb).1
  done := by
    intro X hP hw hK hc i pins s σ H E I hf st hg
    subst hP hw hK
    obtain ⟨⟨old, he⟩, hit⟩ := st
    obtain ⟨xs, hq, hx⟩ := hg
    obtain ⟨its, rv, p, hz⟩ := I.tuple hq
    have pt : s.heap.IsTuple a its.toArray := p
    have hl := rv.length
    obtain ⟨f0, f1, f2, f3, f4, f5⟩ := hf it (by simp)
    have fin : ∀ h', Heap.ExtBut it s.heap h' → (none : Option Value) = none ∧ Inv X pins σ H { s with heap := h' } := fun h' eb => ⟨rfl, I.turned (t' := s.toks) (fun b o hb q => eb b o hb q) f0 f1 f3 f4 f5⟩
    have hT : s.TypeIs (.ref e) "enumerate" := ⟨_, he, rfl⟩
    unfold pyNext
    refine wpAny_bind (wpAny_attempt (wpAny_callSpecial?_slot (name := Str.ofString "__next__") hT F.slot_enumerate_next (wpAny_call_entry F.slot_enumerate_next hT F.entry_enumerate_next ?_ (F.args_enumerate_next_1 _))))
    show wpAny _ _ (field (.ref e) 2 >>= _) _ _ _
    refine wpAny_bind (wpAny_field he rfl (x := .ref it) rfl ?_)
    refine wpAny_bind (wpAny_nextOf_tuple_end (I.ok.hd hc) hit pt (by simp; omega) fun h' x he' hx' => ?_)
    obtain ⟨o, ho, hcx⟩ := hx'
    exact wpAny_bind (wpAny_isInstance (T := "StopIteration") (b := true) ⟨o, ho, hcx⟩ isSubtype_stop (wpAny_pure (fin h' he')))
  self := fun A i s Q E st h => let ⟨⟨_, he⟩, _⟩ := st; wpAny_pyIter_enum he h
def iEnumT (K : PySem.W.Frag) (te : TE) : TI := fun σ H R => te σ H fun v H1 => ∃ a xs, [v] = [V.ref a] ∧ SqT K H1 a xs ∧ R (Iten K a) H1
theorem pi_enumT {X : Cx} {e : Expr} {te : TE} {p pos tpos : Pos} {elts : List Expr} {kk : Nat} (hg : Gl X "enumerate") (hm : X.mg "enumerate" = none) (he : PE X e te) (hs : starEach [e] X.env = [(false, eval e X.env)] := by rfl) :
    PI X (.Tuple elts kk tpos) (.Call (.Name "enumerate" p) [e] [] pos) (iEnumT X.K te) := by
  refine ⟨fun pins s σ H R I h => Call_ (ld_blt I hg hm boot_enumerate (PyProof.Rows.callWith_type1 (thn ((pa_cons he pa_nil hs).run pos pins s σ H (fun vs H1 => ∃ a xs, vs = [.ref a] ∧ SqT X.K H1 a xs ∧ R (Iten X.K a) H1) I ?_) fun us s1 hh => ?_) hs rfl))⟩
  · show tCons te tNil σ H _
    exact h
  · obtain ⟨vs, H1, I1, r1, a, xs, ex, hq, q⟩ := hh
    subst ex
    cases r1 with
    | cons r rr =>
      cases rr
      cases r
      obtain ⟨its, rv, p', hz⟩ := I1.tuple hq
      have pt : s1.heap.IsTuple a its.toArray := p'
      have al : a < s1.heap.objs.size := by
        obtain ⟨_, z, _⟩ := pt
        exact Heap.lt_size z
      refine hw_enum_begins (begins_tuple a its.toArray) pt fun g hen hit hk => wpAny_pyIter_enum hen ?_
      have I2 : Inv X pins σ H1 { s1 with heap := g } := I1.kept (t' := s1.toks) hk
      refine ⟨s1.heap.objs.size + 1, [s1.heap.objs.size + 1, s1.heap.objs.size], _, _, H1, rfl, I2, turn_enumT a (s1.heap.objs.size + 1) s1.heap.objs.size (Nat.succ_ne_self _) (Nat.ne_of_lt al) (Nat.ne_of_lt (Nat.lt_succ_of_lt al)), ⟨⟨.none, hen⟩, ⟨_, hit, rfl, rfl⟩⟩, fun b hb => ?_, q⟩
      have hle : s1.heap.objs.size ≤ b := by
        rcases List.mem_cons.mp hb with z | z
        · rw [z]; exact Nat.le_succ _
        · rw [List.mem_singleton.mp z]; exact Nat.le_refl _
      exact I1.fpOk hle (I1.hok.fresh hle)

theorem it_enumT {k : Kx} {F Z : Hp} {a : Addr} {vs : List V} {ds : List D} (h : SqT k.K Z a vs) (r : Reps k Z ds vs) : ItOk k F Z (Iten k.K a) (ds.zipIdx.map fun p => .tup [.int p.2, p.1]) where
  go := fun i H e f hi => by
    have hi : i < vs.length := by simpa [r.length] using hi
    exact ⟨vs, vs[i], same_sqT e h, List.getElem?_eq_getElem _⟩
  stop := fun i H e f hi => ⟨vs, same_sqT e h, by simpa [r.length] using hi⟩
  yld := fun i H H' x d e f hd y => by
    obtain ⟨T, v, rfl, hT, rfl, hx⟩ := y
    rw [List.getElem?_map] at hd
    obtain ⟨p, h1, h2⟩ := Option.map_eq_some_iff.mp hd
    rw [List.getElem?_zipIdx] at h1
    obtain ⟨d', h3, h4⟩ := Option.map_eq_some_iff.mp h1
    subst h4 h2
    obtain ⟨u, g1, g2⟩ := r.get h3
    have := hx vs (same_sqT e h)
    rw [g1] at this
    cases this
    have zT := none_of_same e hT
    refine .inr ⟨T, _, rfl, hT, rfl, rep_tup.mpr ⟨T, _, rfl, upd_same, Reps.cons (rep_int.mpr ?_) (Reps.cons (g2.mono (same_new zT)) Reps.nil)⟩⟩
    simp
/-- enumerate of a list, a tuple, the empty tuple of the module -/
def enS : D → Option (List D)
  | .lst ds => some (ds.zipIdx.map fun p => .tup [.int p.2, p.1])
  | .tup ds => some (ds.zipIdx.map fun p => .tup [.int p.2, p.1])
  | .ctup [] => some []
  | _ => none
def iEnS (m : SE) : SI := fun ρ τ => (m ρ τ).bind fun d τ1 => .of (enS d) τ1
theorem iEn_eq {m : SE} {ρ : Rho} {τ τ1 : Tau} {ds : List D} (h : m ρ τ = .ok (.lst ds) τ1) : iEnS m ρ τ = iEn m ρ τ := by
  unfold iEnS iEn
  rw [h]
  rfl
section
variable {X : Cx} {W : WX} {e : Expr} {elts : List Expr} {m : SE} {p pos tpos : Pos} {kk : Nat}
theorem eiv_enumS (hg : Gl X "enumerate") (hm : X.mg "enumerate" = none) (he : EV X W e m) (hs : starEach [e] X.env = [(false, eval e X.env)] := by rfl) : EIV X W (.Tuple elts kk tpos) (.Call (.Name "enumerate" p) [e] [] pos) (iEnS m) := by
  have p1 := eiv_enum (p := p) (pos := pos) (tpos := tpos) (elts := elts) (kk := kk) hg hm he hs
  have p2 := pi_enumT (p := p) (pos := pos) (tpos := tpos) (elts := elts) (kk := kk) hg hm he hs
  refine ⟨fun pins s0 σ H R I q => ?_⟩
  obtain ⟨ρ, τ, A, F0, F, Z, w, s, q⟩ := q
  cases hm : m ρ τ with
  | bad => unfold iEnS at q; rw [hm] at q; exact q.elim
  | exc x τ1 =>
    refine p1.run pins s0 σ H R I ⟨ρ, τ, A, F0, F, Z, w, s, ?_⟩
    unfold iEnS at q
    unfold iEn
    rw [hm] at q ⊢
    exact q
  | ok d τ1 =>
    have q0 := q
    unfold iEnS at q
    rw [hm] at q
    have tupc : ∀ {vs : List V} {ds : List D}, (∀ H1 Z1, Wd (jx X W).k A F τ1 H1 Z1 → Same Z Z1 → ∀ v, Rep (jx X W).k Z1 d v → ∃ a, v = .ref a ∧ SqT X.K Z1 a vs ∧ Reps (jx X W).k Z1 ds vs) → enS d = some (ds.zipIdx.map fun p => .tup [.int p.2, p.1]) →
        tE (jx X W) m σ H (fun v H1 => ∃ a xs, [v] = [V.ref a] ∧ SqT X.K H1 a xs ∧ R (Iten X.K a) H1) := fun {vs ds} hv hd => by
      refine ⟨ρ, τ, A, F0, F, Z, w, s, ?_⟩
      rw [hm]
      intro H1 Z1 w1 e1 v rv
      obtain ⟨a, rfl, h2, h3⟩ := hv H1 Z1 w1 e1 v rv
      have q : After (jx X W) A F0 F ρ σ Z (Out.of (enS d) τ1) fun ds _ H' Z' => ∀ J, ItOk (jx X W).k nopH Z' J ds → R J H' := q
      rw [hd] at q
      exact ⟨a, vs, rfl, same_sqT w1.zh h2, q H1 Z1 w1 e1 _ (it_enumT h2 h3)⟩
    cases d with
    | lst ds => exact p1.run pins s0 σ H R I ⟨ρ, τ, A, F0, F, Z, w, s, by rw [← iEn_eq hm]; exact q0⟩
    | tup ds =>
      by_cases hds : ∃ vs : List V, vs.length = ds.length
      · refine p2.run pins s0 σ H R I ⟨ρ, τ, A, F0, F, Z, w, s, ?_⟩
        rw [hm]
        intro H1 Z1 w1 e1 v rv
        obtain ⟨a, vs, rfl, h2, h3⟩ := rep_tup.mp rv
        exact ⟨a, vs, rfl, SqT.of (w1.zh _ _ h2), q H1 Z1 w1 e1 _ (it_enumT (SqT.of h2) h3)⟩
      · exact absurd ⟨List.replicate ds.length .non, List.length_replicate⟩ hds
    | ctup us =>
      cases us with
      | nil =>
        refine p2.run pins s0 σ H R I ⟨ρ, τ, A, F0, F, Z, w, s, ?_⟩
        rw [hm]
        intro H1 Z1 w1 e1 v rv
        obtain ⟨a, rfl, h2⟩ := rep_ctup.mp rv
        exact ⟨a, [], rfl, same_sqT w1.zh h2, q H1 Z1 w1 e1 _ (it_enumT h2 Reps.nil)⟩
      | cons u us => exact q.elim
    | _ => exact q.elim
end

/-! ### a list, a tuple, the module's empty tuple, walked -/
def sqS : D → Option (List D)
  | .lst ds => some ds
  | .tup ds => some ds
  | .ctup [] => some []
  | _ => none
def iSqS (m : SE) : SI := fun ρ τ => (m ρ τ).bind fun d τ1 => .of (sqS d) τ1
section
variable {X : Cx} {W : WX} {e tg : Expr} {m : SE}
theorem eiv_sqS (h : EV X W e m) : EIV X W tg e (iSqS m) := by
  have p1 := eiv_seq (tg := tg) h
  have p2 := pi_tup (tg := tg) h
  refine ⟨fun pins s0 σ H R I q => ?_⟩
  obtain ⟨ρ, τ, A, F0, F, Z, w, s, q⟩ := q
  cases hm : m ρ τ with
  | bad => unfold iSqS at q; rw [hm] at q; exact q.elim
  | exc x τ1 =>
    refine p1.run pins s0 σ H R I ⟨ρ, τ, A, F0, F, Z, w, s, ?_⟩
    unfold iSqS at q
    unfold iSeq
    rw [hm] at q ⊢
    exact q
  | ok d τ1 =>
    unfold iSqS at q
    rw [hm] at q
    have same : ∀ ds, iSeq m ρ τ = .ok ds τ1 → sqS d = some ds → PIE X pins σ tg R = PIE X pins σ tg R → tIV (jx X W) (iSeq m) σ H R := fun ds h1 h2 _ => ⟨ρ, τ, A, F0, F, Z, w, s, by
      rw [h1]
      have q : After (jx X W) A F0 F ρ σ Z (Out.of (sqS d) τ1) fun ds _ H' Z' => ∀ J, ItOk (jx X W).k nopH Z' J ds → R J H' := q
      rw [h2] at q
      exact q⟩
    cases d with
    | lst ds => exact p1.run pins s0 σ H R I (same ds (by unfold iSeq; rw [hm]; rfl) rfl rfl)
    | tup ds => exact p1.run pins s0 σ H R I (same ds (by unfold iSeq; rw [hm]; rfl) rfl rfl)
    | ctup us =>
      cases us with
      | nil =>
        refine p2.run pins s0 σ H R I ⟨ρ, τ, A, F0, F, Z, w, s, ?_⟩
        rw [hm]
        intro H1 Z1 w1 e1 v rv
        obtain ⟨a, rfl, h2⟩ := rep_ctup.mp rv
        exact ⟨a, rfl, ⟨[], same_sqT w1.zh h2⟩, q H1 Z1 w1 e1 _ (it_tuple h2 Reps.nil)⟩
      | cons u us => exact q.elim
    | _ => exact q.elim
end

/-! ### for x in d, d a dict without keys -/
def sForD0 (i : Nat) : SS := fun ρ τ => match ρ[i]? with
  | some (.fz (.dct _ [] [])) => .nx ρ τ
  | _ => .bad
section
variable {X : Cx} {W : WX} {r : Bool} {tg : Expr} {body : List Stmt} {p pos : Pos} {x : Str}
theorem dct_empty {t : Bool} {o : HO} {vs : List V} (h : DctO t o [] vs) : o = .dK [] ∨ o = .dT [] := by
  rcases h with ⟨_, kvs, rfl, _, e⟩ | ⟨_, kvs, rfl, _, e⟩
  · cases kvs with
    | nil => exact .inl rfl
    | cons _ _ => cases e
  · cases kvs with
    | nil => exact .inr rfl
    | cons _ _ => cases e
theorem es_forD0 (i : Nat) (hp : PassesOwn (model X.prog X.w) X.A X.env X.xe) (hN : X.N[i]? = some x := by rfl) (hv : Vis X.env.scope x := by first | exact Or.inl rfl | exact Or.inr (Or.inl rfl) | exact Or.inr (Or.inr rfl)) (hd : (x == ("__debug__" : Str)) = false := by decide) (hcd : (x == ("__classdict__" : Str)) = false := by decide)
    (hc : X.calm = true := by rfl) (hs : ∀ z, foldedSetIterable (.Name x p) X.env z = pure z := by intro _; rfl) : ES X W r (.For tg (.Name x p) body [] pos) (sForD0 i) := by
  have hg : PG X tg (fun _ _ _ _ => False) := ⟨fun pins s σ H v u Q I r z => z.elim⟩
  have hb : PSs X body (fun _ _ _ => False) := ⟨fun pins s σ H D I z => z.elim⟩
  refine ps_weak (ps_lock (ps_for hp hc (pi_keys (pe_var (pos := p) hN hv hd hcd)) hg hb hs)) fun D σ H ⟨ρ, τ, A, F0, F, Z, w, s, q⟩ => ?_
  unfold sForD0 at q
  split at q
  · rename_i t hi
    obtain ⟨v, h1, h2⟩ := s.fz i _ hi
    obtain ⟨a, o, vs, rfl, h3, h4, h5⟩ := rep_dct.mp h2
    have hH := w.zh _ _ h3
    have back : upd (upd H a o) a o = H := by
      funext b
      by_cases hb : b = a
      · subst hb; rw [upd_same, hH]
      · rw [upd_ne hb, upd_ne hb]
    have back2 : ∀ u, upd (upd H a u) a o = H := fun u => by
      funext b
      by_cases hb : b = a
      · subst hb; rw [upd_same, hH]
      · rw [upd_ne hb, upd_ne hb]
    have fin : D.nx σ H := AfterS.next q w s
    rcases dct_empty h4 with rfl | rfl
    · refine ⟨a, _, hH, trivial, fun od => ⟨.ref a, h1, a, od, rfl, .inl ⟨[], upd_same, fun _ m σ' H' => m = 0 ∧ σ' = σ ∧ H' = upd H a (.frz od (.dK [])), ⟨0, rfl, rfl, rfl⟩, fun j m σ' H' z => .inl ?_⟩⟩⟩
      obtain ⟨_, rfl, rfl⟩ := z
      exact ⟨⟨upd_same, Nat.zero_le _⟩, upd_same, by rw [back2]; exact fin⟩
    · refine ⟨a, _, hH, trivial, fun od => ⟨.ref a, h1, a, od, rfl, .inr ⟨[], upd_same, fun _ m σ' H' => m = 0 ∧ σ' = σ ∧ H' = upd H a (.frz od (.dT [])), ⟨0, rfl, rfl, rfl⟩, fun j m σ' H' z => .inl ?_⟩⟩⟩
      obtain ⟨_, rfl, rfl⟩ := z
      exact ⟨⟨upd_same, Nat.zero_le _⟩, upd_same, by rw [back2]; exact fin⟩
  · exact q.elim
end

/-! ### list(d), sorted(xs), own sums -/
def cListD0 : List D → Option D
  | [.dct _ [] []] => some (.lst [])
  | _ => none
section
variable {X : Cx} {k : Kx}
theorem call_listDD (hc : X.calm = true) : CallR X (.type "list") (fun xs H Q => (∃ (a : Addr) (kvs : List (Key × V)), xs = [.ref a] ∧ Rd H a (.dK kvs) ∧ ∀ p, H p = none → Q (.ref p) (upd H p (.lst (kvs.map fun kv => kV kv.1)))) ∨
    ∃ d kvs, xs = [V.ref d] ∧ Rd H d (.dT kvs) ∧ ∀ p bs, H p = none → IsKeys H kvs bs → Q (.ref p) (upd H p (.lst (bs.map V.ref)))) := CallR.or (call_listD hc) (call_list_dT hc)
theorem cf_listD0 : CallF k (fun xs H Q => (∃ (a : Addr) (kvs : List (Key × V)), xs = [.ref a] ∧ Rd H a (.dK kvs) ∧ ∀ p, H p = none → Q (.ref p) (upd H p (.lst (kvs.map fun kv => kV kv.1)))) ∨
    ∃ d kvs, xs = [V.ref d] ∧ Rd H d (.dT kvs) ∧ ∀ p bs, H p = none → IsKeys H kvs bs → Q (.ref p) (upd H p (.lst (bs.map V.ref)))) cListD0 := fun {F Z H xs ds z Q} eZ eF hx he q => by
  unfold cListD0 at he
  split at he
  · rename_i t
    cases he
    obtain ⟨v, rfl, r⟩ := repBs1 hx
    obtain ⟨a, o, vs, rfl, h2, h3, h4⟩ := r.dct eZ eF
    rcases dct_empty h3 with rfl | rfl
    · exact .inl ⟨a, [], rfl, .inl h2, fun p hp => q p _ hp ⟨[], rfl, Reps.nil⟩⟩
    · refine .inr ⟨a, [], rfl, .inl h2, fun p bs hp hk => ?_⟩
      cases hk
      exact q p _ hp ⟨[], rfl, Reps.nil⟩
  · cases he
/-- sorted of ints -/
def insI (x : Int) : List Int → List Int
  | [] => [x]
  | y :: ys => if x ≤ y then x :: y :: ys else y :: insI x ys
def sortI : List Int → List Int
  | [] => []
  | x :: xs => insI x (sortI xs)
theorem insI_perm (x : Int) : ∀ l, (insI x l).Perm (x :: l)
  | [] => List.Perm.refl _
  | y :: ys => by
    unfold insI
    split
    · exact List.Perm.refl _
    · exact (List.Perm.cons y (insI_perm x ys)).trans (List.Perm.swap x y ys)
theorem insI_pw (x : Int) : ∀ {l : List Int}, l.Pairwise (· ≤ ·) → (insI x l).Pairwise (· ≤ ·)
  | [], _ => List.pairwise_singleton _ _
  | y :: ys, h => by
    obtain ⟨h1, h2⟩ := List.pairwise_cons.mp h
    unfold insI
    split
    · rename_i hxy
      exact List.pairwise_cons.mpr ⟨fun z hz => by
        rcases List.mem_cons.mp hz with e | e
        · omega
        · have := h1 z e; omega, h⟩
    · rename_i hxy
      refine List.pairwise_cons.mpr ⟨fun z hz => ?_, insI_pw x h2⟩
      rcases List.mem_cons.mp ((insI_perm x ys).mem_iff.mp hz) with e | e
      · omega
      · exact h1 z e
theorem sortI_perm : ∀ l, (sortI l).Perm l
  | [] => List.Perm.refl _
  | x :: xs => (insI_perm x _).trans (List.Perm.cons x (sortI_perm xs))
theorem sortI_pw : ∀ l, (sortI l).Pairwise (· ≤ ·)
  | [] => List.Pairwise.nil
  | x :: xs => insI_pw x (sortI_pw xs)
theorem sorted_one {l l' : List Int} (p : l.Perm l') (h : l.Pairwise (· ≤ ·)) (h' : l'.Pairwise (· ≤ ·)) : l = l' := List.Perm.eq_of_pairwise (fun a b _ _ h1 h2 => by omega) h h' p
def cSort : List D → Option D
  | [.lst ds] => (intsOf ds).map fun ns => .lst ((sortI ns).map .int)
  | _ => none
theorem cf_sort : CallF k (rSortedI k.K) cSort := fun {F Z H xs ds z Q} eZ eF hx he q => by
  unfold cSort at he
  split at he
  · rename_i es
    obtain ⟨ns, h1, rfl⟩ := Option.map_eq_some_iff.mp he
    obtain ⟨v, rfl, r⟩ := repBs1 hx
    obtain ⟨p, vs, rfl, h2, h3⟩ := r.lst eZ eF
    have ev := intsOf_reps h1 h3
    subst ev
    refine ⟨p, ns, rfl, SqL.of h2, fun ns' l hp hs hl => q l _ hl ?_⟩
    have e : ns' = sortI ns := sorted_one (hp.trans (sortI_perm ns).symm) hs (sortI_pw ns)
    subst e
    exact ⟨_, rfl, reps_ints _⟩
  · cases he
/-- lists alone -/
def dCat : D → D → Option D
  | .lst a, .lst b => if a.length + b.length ≤ sizeLine then some (.lst (a ++ b)) else none
  | _, _ => none
def dRepL : D → D → Option D
  | .lst a, .int j => if -(2 ^ 63) ≤ j ∧ j < 2 ^ 63 ∧ a.length * j.toNat ≤ sizeLine then some (.lst (List.replicate j.toNat a).flatten) else none
  | _, _ => none
theorem opf_cat : OpF k rCat dCat := fun {F Z H x y d e z Q} eZ eF hx hy he q => by
  unfold dCat at he
  split at he
  · rename_i a b
    split at he
    · rename_i hl
      cases he
      obtain ⟨p, vs, h1, h2, h3⟩ := hx.lst eZ eF
      obtain ⟨p', vs', h1', h2', h3'⟩ := hy.lst eZ eF
      exact ⟨p, p', vs, vs', h1, h1', h2, h2', by rw [← h3.length, ← h3'.length]; exact hl, fun n hn => q n _ hn ⟨_, rfl, h3.append h3'⟩⟩
    · cases he
  · cases he
theorem opf_rep : OpF k rRep dRepL := fun {F Z H x y d e z Q} eZ eF hx hy he q => by
  unfold dRepL at he
  split at he
  · rename_i a j
    split at he
    · rename_i hc
      cases he
      obtain ⟨p, vs, h1, h2, h3⟩ := hx.lst eZ eF
      exact ⟨p, j, vs, h1, hy.int, h2, hc.1, hc.2.1, by rw [← h3.length]; exact hc.2.2, fun n hn => q n _ hn ⟨_, rfl, reps_rep h3 _⟩⟩
    · cases he
  · cases he
end

/-! ### a class made by its name -/
structure Mz (P : Program) (w : World) (K : PySem.W.Frag) (mg : Str → Option Value) (base : Heap) (k : Nat) (c : Str) (ps : List Str) (dds : List D) (mf : MF) : Prop where
  ex : ∃ (f : Addr) (fd : FuncData) (ds : List Value) (dvs : List V), Mk K (ga K c) f ∧ FnOk P w K mg base (L2.CX P w) k f fd ps (SpOf ⟨K, mg⟩ false ps.length mf) ∧ Binds K fd ps ds ∧ Vals dvs ds ∧ RepAll ⟨K, mg⟩ dds dvs
  at_ : mg c = some (.ref (ga K c))
theorem ef_mkD {X : Cx} {W : WX} {e : Expr} {es : List Expr} {mr : SR} {pos p : Pos} {c : Str} {k j n : Nat} {ps : List Str} {dds : List D} {mf : MF} (M : Mz X.prog X.w X.K X.mg X.base k c ps dds mf) (hr : Room j X.A) (ha : AN X W (e :: es) n mr) (hj : k + 1 ≤ j := by decide) (tk : Takes X W := by exact takes_of rfl rfl rfl rfl)
    (hn : n + dds.length + 1 = ps.length := by rfl) (hg : Gl X c := by rfl) (hdb : (c == ("__debug__" : Str)) = false := by decide) (he : starEach (e :: es) X.env = (false, eval e X.env) :: starEach es X.env := by rfl) (hpl : (backTo pos (starEach es X.env)).any (·.1) = false := by rfl) :
    EF X W (.Call (.Name c p) (e :: es) [] pos) (eMake c mf (rDef mr dds)) := by
  obtain ⟨f, fd, ds, dvs, K, F, b, v, rr⟩ := M.ex
  exact ef_make K F (hr.mono hj) M.at_ b v rr tk (fun ρ τ ss τ1 h => by rw [len_rDef ha.len ρ τ ss τ1 h]; exact hn) ha.er hg hdb he hpl
/-- a method by its name -/
structure Mt (P : Program) (w : World) (K : PySem.W.Frag) (mg : Str → Option Value) (base : Heap) (k : Nat) (c nm : Str) (r : Bool) (ps : List Str) (dds : List D) (mf : MF) : Prop where
  ex : ∃ (f : Addr) (fd : FuncData) (ds : List Value) (dvs : List V), Meth K (ga K c) nm f ∧ FnOk P w K mg base (L2.CX P w) k f fd ps (SpOf ⟨K, mg⟩ r ps.length mf) ∧ Binds K fd ps ds ∧ Vals dvs ds ∧ RepAll ⟨K, mg⟩ dds dvs
  at_ : mg c = some (.ref (ga K c))
  cls : Cls K (ga K c)
theorem ev_lenM {X : Cx} {W : WX} {e : Expr} {m : SE} {pos p : Pos} {k j : Nat} {x : Str} {mf : MF} (c : Str) (M : Mt X.prog X.w X.K X.mg X.base k c "__len__" false [x] [] mf) (hr : Room j X.A) (he : EV X W e m) (hm : X.mg "len" = none) (hj : k + 1 ≤ j := by decide) (tk : Takes X W := by exact takes_of rfl rfl rfl rfl) (hg : Gl X "len" := by rfl)
    (hs : starEach [e] X.env = (false, eval e X.env) :: starEach [] X.env := by rfl) : EV X W (.Call (.Name "len" p) [e] [] pos) (eLenO c mf m) := by
  obtain ⟨f, fd, ds, dvs, K, F, b, v, rr⟩ := M.ex
  have e0 : dvs = [] := reps_nil.mp (rr nopH)
  subst e0
  cases v
  exact ev_lenO c M.at_ K.at_ K.fn rfl F (hr.mono hj) b tk he hg hm hs
end Hw
set_option maxHeartbeats 1000000
/-! Hw, part 19: the law's end. -/
namespace Hw
open PySem PySem.Spec L2
open He (Fa DefD ga ma fAd cT)
theorem law_at {l : PySem.W.OpenLaw} {w : World} {K : PySem.W.Frag} {mg : Str → Option Value} {h : Heap} {fa : List Fa} {fn : List DefD} {tf : List He.Defn} {ex : PySem.W.Frag → Bool} {k : Nat} {x : Str} {fl : Addr} {fd : FuncData} {mf : MF} (KX : K.In h) (c : He.SaysX fa fn [] tf ex w h K) (T : List (Addr × Str)) (hT : ∀ p ∈ T, ∃ q ∈ tf, (cT K q).2 = p.1)
    (hb : ∀ (s : Shared) (u : Value), BindsTo s fd ⟨[u], []⟩ [(x, u)]) (hF : ∀ base : Heap, K.In base → base.Ns mainGlobals mg → (∀ p ∈ tf, LamX.TabB base mg (cT K p).1 (cT K p).2) → FnOk l.prog w K mg base (L2.CX l.prog w) k fl fd [x] (@SpOf ⟨T⟩ ⟨K, mg⟩ false 1 mf))
    (hm : ∀ ns : List Int, ns.length ≤ 63 → (∀ z ∈ ns, Builtin.Int.intBits z ≤ 1048576) → mf [.fz (.scr ns)] [] = .ok (.bl true) []) : LamX.LawAtS l w K (L2.CX l.prog w) k 63 x mg fl h := by
  have mem : ∀ {p : Addr × Addr}, p ∈ tf.map (cT K) → ∃ q ∈ tf, cT K q = p := fun {p} hp => List.mem_map.mp hp
  refine ⟨fd, tf.map (cT K), @SpOf ⟨T⟩ ⟨K, mg⟩ false 1 mf, fun p hp => ?_, fun p hp => ?_, fun p hp => ?_, hb, fun H a ns hl hbits hH hS => ?_, fun base b1 b2 b3 => hF base b1 b2 fun p hp => b3 _ (List.mem_map.mpr ⟨p, hp, rfl⟩)⟩
  · obtain ⟨q, h1, rfl⟩ := mem hp
    exact c.empty q h1
  · obtain ⟨q, h1, rfl⟩ := mem hp
    exact c.out q h1
  · obtain ⟨q, h1, rfl⟩ := mem hp
    exact PySem.W.codeHd_of_K KX (c.hd q h1)
  · refine @law_sp ⟨T⟩ ⟨K, mg⟩ mf H a ns (fun p hp => ?_) hS (hm ns hl hbits)
    obtain ⟨q, h1, h2⟩ := hT p hp
    exact LamX.TabS.nil (by rw [← h2]; exact hH _ (List.mem_map.mpr ⟨q, h1, rfl⟩))
theorem cx_no {P : Program} {w : World} {H : Hp} {s : Shared} {e : Value} {s' : Shared} (z : L2.CX P w [] H s (fun _ _ _ => False) e s') : False := by
  obtain ⟨_, _, _, _, _, _, _, _, _, _, _, _, z⟩ := z
  exact z
theorem Sx.tst {fa : List Fa} {fn : List DefD} {xs : List (PySem.W.Frag → Bool)} {K : PySem.W.Frag} {mg : Str → Option Value} (c : Sx fa fn (fun K => xs.all fun t => t K) K mg) (i : Nat) {t : PySem.W.Frag → Bool} (h : xs[i]? = some t := by rfl) : t K = true :=
  List.all_eq_true.mp c.more t (List.mem_of_getElem? h)
end Hw
set_option maxHeartbeats 0
/-! The defs of the law hueroads_k03_sizes_of_nets as functions of plain data; printed by gen.py. -/
namespace K03
open PySem PySem.Spec L2 Hw
open PyProof.Rows (envOfC)
open He (Fa DefD ga ma fAd cT)
def topS (i : Nat) : Stmt := PySem.Challenge.pw_hueroads_k03_sizes_of_nets.main.body.getD i (.Pass ⟨0, 0, 0, 0⟩)
def inS (i j : Nat) : Stmt := match topS i with
  | .ClassDef _ _ _ b _ _ _ _ _ _ _ => b.getD j (.Pass ⟨0, 0, 0, 0⟩)
  | _ => .Pass ⟨0, 0, 0, 0⟩
abbrev s_edge_fault : Stmt := topS 29
def dd_edge_fault : DefD := ⟨("edge_fault", none), "edge_fault", "edge_fault", defArgs s_edge_fault, defBody s_edge_fault, defScope s_edge_fault, [], []⟩
abbrev s_is_swap : Stmt := topS 30
def dd_is_swap : DefD := ⟨("is_swap", none), "is_swap", "is_swap", defArgs s_is_swap, defBody s_is_swap, defScope s_is_swap, [], []⟩
abbrev s_mixed_pairs : Stmt := topS 32
def dd_mixed_pairs : DefD := ⟨("mixed_pairs", none), "mixed_pairs", "mixed_pairs", defArgs s_mixed_pairs, defBody s_mixed_pairs, defScope s_mixed_pairs, [], []⟩
abbrev s_swap_table : Stmt := topS 33
def dd_swap_table : DefD := ⟨("swap_table", none), "swap_table", "swap_table", defArgs s_swap_table, defBody s_swap_table, defScope s_swap_table, [], []⟩
abbrev s_Net_len : Stmt := inS 37 2
def dd_Net_len : DefD := ⟨("Net", some "__len__"), "__len__", "Net.__len__", defArgs s_Net_len, defBody s_Net_len, defScope s_Net_len, [], []⟩
abbrev s_l_bag : Stmt := topS 41
def dd_l_bag : DefD := ⟨("_law_bag", none), "_law_bag", "_law_bag", defArgs s_l_bag, defBody s_l_bag, defScope s_l_bag, [], []⟩
abbrev s_l_take : Stmt := topS 42
def dd_l_take : DefD := ⟨("_law_take", none), "_law_take", "_law_take", defArgs s_l_take, defBody s_l_take, defScope s_l_take, [], []⟩
abbrev s_l_size_fault : Stmt := topS 46
def dd_l_size_fault : DefD := ⟨("_law_size_fault", none), "_law_size_fault", "_law_size_fault", defArgs s_l_size_fault, defBody s_l_size_fault, defScope s_l_size_fault, [], []⟩
abbrev s_l_is_entry : Stmt := topS 47
def dd_l_is_entry : DefD := ⟨("_law_is_entry", none), "_law_is_entry", "_law_is_entry", defArgs s_l_is_entry, defBody s_l_is_entry, defScope s_l_is_entry, [], []⟩
abbrev s_swap_fault : Stmt := topS 31
def dd_swap_fault : DefD := ⟨("swap_fault", none), "swap_fault", "swap_fault", defArgs s_swap_fault, defBody s_swap_fault, defScope s_swap_fault, [], []⟩
abbrev s_cube_fault : Stmt := topS 35
def dd_cube_fault : DefD := ⟨("cube_fault", none), "cube_fault", "cube_fault", defArgs s_cube_fault, defBody s_cube_fault, defScope s_cube_fault, [], []⟩
abbrev s_sides_left : Stmt := topS 38
def dd_sides_left : DefD := ⟨("sides_left", none), "sides_left", "sides_left", defArgs s_sides_left, defBody s_sides_left, defScope s_sides_left, [], []⟩
abbrev s_l_pick : Stmt := topS 43
def dd_l_pick : DefD := ⟨("_law_pick", none), "_law_pick", "_law_pick", defArgs s_l_pick, defBody s_l_pick, defScope s_l_pick, [], []⟩
abbrev s_l_rough_fault : Stmt := topS 48
def dd_l_rough_fault : DefD := ⟨("_law_rough_fault", none), "_law_rough_fault", "_law_rough_fault", defArgs s_l_rough_fault, defBody s_l_rough_fault, defScope s_l_rough_fault, [], []⟩
abbrev s_check_sizes : Stmt := topS 28
def dd_check_sizes : DefD := ⟨("check_sizes", none), "check_sizes", "check_sizes", defArgs s_check_sizes, defBody s_check_sizes, defScope s_check_sizes, [], []⟩
abbrev s_net_fault : Stmt := topS 36
def dd_net_fault : DefD := ⟨("net_fault", none), "net_fault", "net_fault", defArgs s_net_fault, defBody s_net_fault, defScope s_net_fault, [], []⟩
abbrev s_complete_swaps : Stmt := topS 39
def dd_complete_swaps : DefD := ⟨("complete_swaps", none), "complete_swaps", "complete_swaps", defArgs s_complete_swaps, defBody s_complete_swaps, defScope s_complete_swaps, [], [("swaps", .adr (kwAt ("complete_swaps", none) "swaps"))]⟩
abbrev s_Net_init : Stmt := inS 37 0
def dd_Net_init : DefD := ⟨("Net", some "__init__"), "__init__", "Net.__init__", defArgs s_Net_init, defBody s_Net_init, defScope s_Net_init, [], [("swaps", .adr (kwAt ("Net", some "__init__") "swaps"))]⟩
abbrev s_l_alike : Stmt := topS 44
def dd_l_alike : DefD := ⟨("_law_alike", none), "_law_alike", "_law_alike", defArgs s_l_alike, defBody s_l_alike, defScope s_l_alike, [], []⟩
abbrev s_l_sized : Stmt := topS 49
def dd_l_sized : DefD := ⟨("_law_sized", none), "_law_sized", "_law_sized", defArgs s_l_sized, defBody s_l_sized, defScope s_l_sized, [], []⟩
abbrev s_law : Stmt := topS 50
def dd_law : DefD := ⟨("law", none), "law", "law", defArgs s_law, defBody s_law, defScope s_law, [], []⟩
abbrev s_BadNet_init : Stmt := inS 6 0
def dd_BadNet_init : DefD := ⟨("BadNet", some "__init__"), "__init__", "BadNet.__init__", defArgs s_BadNet_init, defBody s_BadNet_init, defScope s_BadNet_init, [], []⟩
abbrev s_BadNumber_init : Stmt := inS 4 0
def dd_BadNumber_init : DefD := ⟨("BadNumber", some "__init__"), "__init__", "BadNumber.__init__", defArgs s_BadNumber_init, defBody s_BadNumber_init, defScope s_BadNumber_init, [], []⟩
abbrev s_Full_init : Stmt := inS 5 0
def dd_Full_init : DefD := ⟨("Full", some "__init__"), "__init__", "Full.__init__", defArgs s_Full_init, defBody s_Full_init, defScope s_Full_init, [], []⟩
abbrev s_l_tried : Stmt := topS 45
def dd_l_tried : DefD := ⟨("_law_tried", none), "_law_tried", "_law_tried", defArgs s_l_tried, defBody s_l_tried, defScope s_l_tried, [], []⟩
def fn : List DefD := [dd_edge_fault, dd_is_swap, dd_mixed_pairs, dd_swap_table, dd_Net_len, dd_l_bag, dd_l_take, dd_l_size_fault, dd_l_is_entry, dd_swap_fault, dd_cube_fault, dd_sides_left, dd_l_pick, dd_l_rough_fault, dd_check_sizes, dd_net_fault, dd_complete_swaps, dd_Net_init, dd_l_alike, dd_l_sized, dd_law, dd_BadNet_init, dd_BadNumber_init, dd_Full_init, dd_l_tried]
def fa : List Fa := [.free "enumerate", .free "len", .free "all", .free "tuple", .free "list", .free "range", .free "sorted", .free "isinstance", .free "bool", .free "int", .free "str", .free "min", .free "max", .glo "_law_tried", .glo "BadNet", .glo "BadNumber", .glo "Full", .cls "Net", .glo "Net", .noat "Net" "lines", .noat "Net" "hues", .noat "Net" "knots", .noat "Net" "entries", .noat "Net" "table", .glo "RoadError", .glo "RoadMissing", .glo "NoEdge", .glo "NoNode", .glo "BadText", .glo "Stopped", .glo "Unsound", .glo "InUse", .glo "NoNet", .glo "NoPath", .glo "NoTiling", .glo "Broken", .glo "Uneven", .glo "Bare", .glo "BadPath", .glo "BadStep", .glo "BadWeight", .glo "Unbalanced", .glo "NoWatch", .glo "edge_fault", .glo "is_swap", .glo "mixed_pairs", .glo "swap_table", .meth "Net" "__len__", .glo "_law_bag", .glo "_law_take", .glo "_law_size_fault", .glo "_law_is_entry", .glo "swap_fault", .glo "cube_fault", .glo "sides_left", .glo "_law_pick", .glo "_law_rough_fault", .int "COLORS" 3, .int "EDGES" 120, .int "NODES" 30, .glo "check_sizes", .glo "net_fault", .glo "complete_swaps", .mkr "Net", .glo "_law_alike", .glo "_law_sized", .glo "law"]
def clK (K : PySem.W.Frag) : Clauses := [([.ref (ga K "BadNumber"), .ref (ga K "NoWatch")], ["tag", "number"]), ([.ref (ga K "Full")], ["tag", "bound"]), ([.ref (ga K "BadNet")], ["tag", "fault"]), ([.ref (ga K "BadPath"), .ref (ga K "BadStep"), .ref (ga K "BadWeight"), .ref (ga K "Unbalanced")], ["tag", "at"]), ([.ref (ga K "Bare")], ["tag", "color"]), ([.ref (ga K "Uneven")], ["tag", "first", "last"]), ([.ref (ga K "NoNet"), .ref (ga K "NoPath"), .ref (ga K "NoTiling"), .ref (ga K "Broken")], ["tag", "name"]), ([.ref (ga K "InUse")], ["tag", "by"]), ([.ref (ga K "Unsound")], ["tag", "name", "fault"]), ([.ref (ga K "Stopped")], ["tag", "at", "cause"]), ([.ref (ga K "BadText")], ["tag", "row"]), ([.ref (ga K "NoNode")], ["tag", "node"]), ([.ref (ga K "NoEdge")], ["tag", "edge"]), ([.ref (ga K "RoadError"), .ref (ga K "RoadMissing")], ["tag"])]
def exL : List (PySem.W.Frag → Bool) := [fun K => tup0B K (kwAt ("complete_swaps", none) "swaps" K), fun K => tup0B K (kwAt ("Net", some "__init__") "swaps" K), fun K => errB K "BadNet" ["tag", "fault"], fun K => errB K "BadNumber" ["tag", "number"], fun K => errB K "Full" ["tag", "bound"], fun K => tellB K (clK K) (ga K "BadNumber") ["tag", "number"], fun K => tellB K (clK K) (ga K "Full") ["tag", "bound"], fun K => tellB K (clK K) (ga K "BadNet") ["tag", "fault"]]
abbrev SX (K : PySem.W.Frag) (mg : Str → Option Value) : Prop := Sx fa fn (fun K => exL.all fun t => t K) K mg
def LT (K : PySem.W.Frag) : List (Addr × Str) := [((cT K ("law", none)).2, (envOfC "law" (defScope s_law) 0 0 .none).qual ++ "<lambda>")]
def tf : List He.Defn := [("law", none)]
section
variable [Tb] {P : Program} {w : World} {K : PySem.W.Frag} {mg : Str → Option Value} {base : Heap}
theorem rz_BadNet (c : SX K mg) : Rz P w K mg base "BadNet" 1 ["fault", "tag"] fun ds => [ds.getD 0 .non, .str "BadNet"] := by
  obtain ⟨fd, F⟩ := c.d.def_ 21
  exact rz1 (st := s_BadNet_init) (c.tst 2) (c.glo 14) F ⟨rfl, rfl, rfl, by decide +kernel, rfl, by decide +kernel, by decide +kernel⟩ rfl fun _ _ _ _ _ _ us hl => match us, hl with | [_, _], _ => rfl
theorem rz_BadNumber (c : SX K mg) : Rz P w K mg base "BadNumber" 1 ["number", "tag"] fun ds => [ds.getD 0 .non, .str "BadNumber"] := by
  obtain ⟨fd, F⟩ := c.d.def_ 22
  exact rz1 (st := s_BadNumber_init) (c.tst 3) (c.glo 15) F ⟨rfl, rfl, rfl, by decide +kernel, rfl, by decide +kernel, by decide +kernel⟩ rfl fun _ _ _ _ _ _ us hl => match us, hl with | [_, _], _ => rfl
theorem rz_Full (c : SX K mg) : Rz P w K mg base "Full" 1 ["bound", "tag"] fun ds => [ds.getD 0 .non, .str "Full"] := by
  obtain ⟨fd, F⟩ := c.d.def_ 23
  exact rz1 (st := s_Full_init) (c.tst 4) (c.glo 16) F ⟨rfl, rfl, rfl, by decide +kernel, rfl, by decide +kernel, by decide +kernel⟩ rfl fun _ _ _ _ _ _ us hl => match us, hl with | [_, _], _ => rfl
theorem z_Net (c : SX K mg) : Cz K mg "Net" ["lines", "hues", "knots", "entries", "table"] := ⟨(c.glo 18), He.cls_ok (c.fact 17), fun f hf => by
  simp only [List.mem_cons, List.not_mem_nil, or_false] at hf
  rcases hf with rfl | rfl | rfl | rfl | rfl
  · exact He.noat_ok (c.fact 19)
  · exact He.noat_ok (c.fact 20)
  · exact He.noat_ok (c.fact 21)
  · exact He.noat_ok (c.fact 22)
  · exact He.noat_ok (c.fact 23)⟩
def tab : List (Str × List Str) := [("BadNumber", ["tag", "number"]), ("Full", ["tag", "bound"]), ("BadNet", ["tag", "fault"])]
theorem tab_ok (c : SX K mg) : ∀ x fs, (x, fs) ∈ tab → ∀ C, mg x = some (.ref C) → TellOk K (clK K) C fs := by
  intro x fs h C hC
  simp only [tab, List.mem_cons, List.not_mem_nil, or_false, Prod.mk.injEq] at h
  rcases h with ⟨rfl, rfl⟩ | ⟨rfl, rfl⟩ | ⟨rfl, rfl⟩
  · rw [c.glo 15] at hC; cases hC; exact tellB_ok (c.tst 5)
  · rw [c.glo 16] at hC; cases hC; exact tellB_ok (c.tst 6)
  · rw [c.glo 14] at hC; cases hC; exact tellB_ok (c.tst 7)
theorem ok_tried {X : Cx} (c : SX X.K X.mg) : Trd X "_law_tried" "_law_ask" (clK X.K) "told" "no" := by
  obtain ⟨fd, F⟩ := c.d.def_ 24
  have S : FnScope ["_law_ask", "_law_e"] ["_law_ask"] (defScope s_l_tried) := ⟨rfl, rfl, rfl, by decide +kernel, rfl, by decide +kernel, by decide +kernel⟩
  refine trd_mk (st := s_l_tried) F S rfl (Or.inl rfl) (fun _ _ _ _ _ _ us hl => match us, hl with | [_], _ => rfl) fun cdv q => tried_gives (i := 1) S.nd rfl rfl (fun _ => rfl) fun s H => ?_
  exact .cons (asks2 ⟨rfl, by decide, (c.glo 15)⟩ ⟨rfl, by decide, (c.glo 42)⟩) (tell_suite (.cons (.cons (.nil))) rfl (Or.inl rfl) (by decide) (by decide))
    (.cons (asks1 ⟨rfl, by decide, (c.glo 16)⟩) (tell_suite (.cons (.cons (.nil))) rfl (Or.inl rfl) (by decide) (by decide))
    (.cons (asks1 ⟨rfl, by decide, (c.glo 14)⟩) (tell_suite (.cons (.cons (.nil))) rfl (Or.inl rfl) (by decide) (by decide))
    (.cons (asks4 ⟨rfl, by decide, (c.glo 38)⟩ ⟨rfl, by decide, (c.glo 39)⟩ ⟨rfl, by decide, (c.glo 40)⟩ ⟨rfl, by decide, (c.glo 41)⟩) (tell_suite (.cons (.cons (.nil))) rfl (Or.inl rfl) (by decide) (by decide))
    (.cons (asks1 ⟨rfl, by decide, (c.glo 37)⟩) (tell_suite (.cons (.cons (.nil))) rfl (Or.inl rfl) (by decide) (by decide))
    (.cons (asks1 ⟨rfl, by decide, (c.glo 36)⟩) (tell_suite (.cons (.cons (.cons (.nil)))) rfl (Or.inl rfl) (by decide) (by decide))
    (.cons (asks4 ⟨rfl, by decide, (c.glo 32)⟩ ⟨rfl, by decide, (c.glo 33)⟩ ⟨rfl, by decide, (c.glo 34)⟩ ⟨rfl, by decide, (c.glo 35)⟩) (tell_suite (.cons (.cons (.nil))) rfl (Or.inl rfl) (by decide) (by decide))
    (.cons (asks1 ⟨rfl, by decide, (c.glo 31)⟩) (tell_suite (.cons (.cons (.nil))) rfl (Or.inl rfl) (by decide) (by decide))
    (.cons (asks1 ⟨rfl, by decide, (c.glo 30)⟩) (tell_suite (.cons (.cons (.cons (.nil)))) rfl (Or.inl rfl) (by decide) (by decide))
    (.cons (asks1 ⟨rfl, by decide, (c.glo 29)⟩) (tell_suite (.cons (.cons (.cons (.nil)))) rfl (Or.inl rfl) (by decide) (by decide))
    (.cons (asks1 ⟨rfl, by decide, (c.glo 28)⟩) (tell_suite (.cons (.cons (.nil))) rfl (Or.inl rfl) (by decide) (by decide))
    (.cons (asks1 ⟨rfl, by decide, (c.glo 27)⟩) (tell_suite (.cons (.cons (.nil))) rfl (Or.inl rfl) (by decide) (by decide))
    (.cons (asks1 ⟨rfl, by decide, (c.glo 26)⟩) (tell_suite (.cons (.cons (.nil))) rfl (Or.inl rfl) (by decide) (by decide))
    (.cons (asks2 ⟨rfl, by decide, (c.glo 24)⟩ ⟨rfl, by decide, (c.glo 25)⟩) (tell_suite (.cons (.nil)) rfl (Or.inl rfl) (by decide) (by decide))
    (.nil))))))))))))))
/- edge_fault: slots 0 colors 1 nodes 2 edges 3 at 4 color 5 source 6 target -/
abbrev N_edge_fault : List Str := ["colors", "nodes", "edges", "at", "color", "source", "target"]
theorem S_edge_fault : FnScope N_edge_fault ["colors", "nodes", "edges"] (defScope s_edge_fault) := ⟨rfl, rfl, rfl, by decide +kernel, rfl, by decide +kernel, by decide +kernel⟩
def lb_edge_fault_0 : SS := sIf (tOr (tNot (tOf (eChain dLe dLt (eC (.int 0)) (eVarB 4) (eVarB 0)))) (tOr (tNot (tOf (eChain dLe dLt (eC (.int 0)) (eVarB 5) (eVarB 1)))) (tNot (tOf (eChain dLe dLt (eC (.int 0)) (eVarB 6) (eVarB 1)))))) (sRet (eTup (aCons (eC (.str "edge")) (aCons (eVar 3) (aNil))))) (sNext)
def lg_edge_fault_0 : SG := gT (([gN 3, gT (([gN 4, gN 5, gN 6] : List SG).foldr gsCons gsNil)] : List SG).foldr gsCons gsNil)
def b_edge_fault : SS := sSeq (sFor (iEnS (eVar 2)) (lg_edge_fault_0) lb_edge_fault_0)
    (sRet (eC .non))
def m_edge_fault : MF := runB false 7 b_edge_fault
theorem hb_edge_fault (c : SX K mg) (f : Addr) (cdv : Value) (A : Around) (outer : List PySem.Env) (s : Shared) (H : Hp) (E : XK) (hr : Room 0 (A.deeper (envOfC "edge_fault" (defScope s_edge_fault) s.heap.objs.size f cdv))) :
    EL (cxOf (L2.CX P w) P w K mg base N_edge_fault "edge_fault" (defScope s_edge_fault) f cdv A outer s H E) (WX0 E) false (defBody s_edge_fault) (b_edge_fault) := by
  have hN := S_edge_fault.nd
  refine el_cons ?_ ?_
  · refine es_for (eiv_enumS rfl (c.free 0) (ev_var 2)) (eg_tup [gN 3, gT (([gN 4, gN 5, gN 6] : List SG).foldr gsCons gsNil)] rfl (egs_cons (eg_n (is := [3, 4, 5, 6]) 3) (egs_cons (eg_tup [gN 4, gN 5, gN 6] rfl (egs_cons (eg_n (is := [3, 4, 5, 6]) 4) (egs_cons (eg_n (is := [3, 4, 5, 6]) 5) (egs_cons (eg_n (is := [3, 4, 5, 6]) 6) (egs_nil))))) (egs_nil)))) ?_ (passes_of rfl)
    refine el_one ?_
    refine es_if (PW.pt (ew_or (et_not (et_chain op_le op_lt blo_cmp opd_cmp opd_cmp (ev_b (ev_int)) (eb_var 4) (eb_var 0))) (ew_or (et_not (et_chain op_le op_lt blo_cmp opd_cmp opd_cmp (ev_b (ev_int)) (eb_var 5) (eb_var 1))) (ew_or1 (et_not (et_chain op_le op_lt blo_cmp opd_cmp opd_cmp (ev_b (ev_int)) (eb_var 6) (eb_var 1))))))) ?_ ?_
    · refine el_one ?_
      exact es_ret (ev_tup (eav_cons (ev_str) (eav_cons (ev_var 3) (eav_nil))))
    · exact el_nil
  refine el_one ?_
  exact es_ret (ev_non)
theorem ok_edge_fault (c : SX K mg) : Df P w K mg base 1 "edge_fault" false ["colors", "nodes", "edges"] [] m_edge_fault := by
  obtain ⟨fd, F⟩ := c.d.def_ 0
  exact df_mk F (defD_ok F S_edge_fault (hb_edge_fault c _)) (c.glo 43) fun _ _ _ _ _ _ us hl => match us, hl with | [_, _, _], _ => rfl
/- is_swap: slots 0 edges 1 entry 2 first 3 second 4 third 5 fourth 6 edge -/
abbrev N_is_swap : List Str := ["edges", "entry", "first", "second", "third", "fourth", "edge"]
theorem S_is_swap : FnScope N_is_swap ["edges", "entry"] (defScope s_is_swap) := ⟨rfl, rfl, rfl, by decide +kernel, rfl, by decide +kernel, by decide +kernel⟩
def b_is_swap : SS := sSeq (sIf (tOr (tOf (eBin dNe (eCallB cLen (aCons (eVarB 1) (aNil))) (eC (.int 4)))) (tNot (tOf (eCallB cAll (aCons (eLc (iSqS (eVar 1)) (gN 6) [6] (tYes) (eChain dLe dLt (eC (.int 0)) (eVarB 6) (eCallB cLen (aCons (eVarB 0) (aNil))))) (aNil)))))) (sRet (eC (.bl false))) (sNext))
    (sSeq (sTgt (gT (([gN 2, gN 3, gN 4, gN 5] : List SG).foldr gsCons gsNil)) (eLc (iSqS (eVar 1)) (gN 6) [6] (tYes) (eBin dIx (eVarB 0) (eVarB 6))))
    (sSeq (sIf (tOr (tNot (tOf (eBin dLt (eBin dIx (eVarB 2) (eC (.int 0))) (eBin dIx (eVarB 3) (eC (.int 0)))))) (tOr (tOf (eBin dNe (eBin dIx (eVarB 4) (eC (.int 0))) (eBin dIx (eVarB 3) (eC (.int 0))))) (tOf (eBin dNe (eBin dIx (eVarB 5) (eC (.int 0))) (eBin dIx (eVarB 2) (eC (.int 0))))))) (sRet (eC (.bl false))) (sNext))
    (sSeq (sIf (tOr (tOf (eBin dNe (eBin dIx (eVarB 2) (eC (.int 2))) (eBin dIx (eVarB 3) (eC (.int 1))))) (tOf (eBin dNe (eBin dIx (eVarB 4) (eC (.int 2))) (eBin dIx (eVarB 5) (eC (.int 1)))))) (sRet (eC (.bl false))) (sNext))
    (sRet (eAnd (eBin dEq (eBin dIx (eVarB 2) (eC (.int 1))) (eBin dIx (eVarB 4) (eC (.int 1)))) (eBin dEq (eBin dIx (eVarB 3) (eC (.int 2))) (eBin dIx (eVarB 5) (eC (.int 2)))))))))
def m_is_swap : MF := runB false 7 b_is_swap
theorem hb_is_swap (c : SX K mg) (f : Addr) (cdv : Value) (A : Around) (outer : List PySem.Env) (s : Shared) (H : Hp) (E : XK) (hr : Room 0 (A.deeper (envOfC "is_swap" (defScope s_is_swap) s.heap.objs.size f cdv))) :
    EL (cxOf (L2.CX P w) P w K mg base N_is_swap "is_swap" (defScope s_is_swap) f cdv A outer s H E) (WX0 E) false (defBody s_is_swap) (b_is_swap) := by
  have hN := S_is_swap.nd
  refine el_cons ?_ ?_
  · refine es_if (PW.pt (ew_or (et_cmp (op_neD hr.units) opd_ne (ev_b (ev_callB call_len cd_len rfl (c.free 1) rfl (ea_cons (eb_var 1) (ea_nil)))) (ev_b (ev_int)) rfl) (ew_or1 (et_not (et_val (ev_callB (cr_all rfl) cd_all rfl (c.free 2) rfl (ea_cons (ev_b (ef_v (ef_lc [("edge", 6)] (eiv_b (eiv_sqS (ev_var 1))) (blkOk_by rfl) (fun _ _ _ _ _ => eg_n (is := [6]) 6) (fun _ _ _ _ _ => ets_nil) (fun _ _ _ _ _ => ev_chain op_le op_lt blo_cmp opd_cmp opd_cmp (ev_b (ev_int)) (eb_var 6) (ev_b (ev_callB call_len cd_len rfl (c.free 1) rfl (ea_cons (eb_var 0) (ea_nil)))))))) (ea_nil)))))))) ?_ ?_
    · refine el_one ?_
      exact es_ret (ev_bl)
    · exact el_nil
  refine el_cons ?_ ?_
  · exact es_tgt (ef_v (ef_lc [("edge", 6)] (eiv_b (eiv_sqS (ev_var 1))) (blkOk_by rfl) (fun _ _ _ _ _ => eg_n (is := [6]) 6) (fun _ _ _ _ _ => ets_nil) (fun _ _ _ _ _ => ev_ix ix_seq opd_ix (eb_var 0) (eb_var 6)))) (eg_tup [gN 2, gN 3, gN 4, gN 5] rfl (egs_cons (eg_n (is := [2, 3, 4, 5]) 2) (egs_cons (eg_n (is := [2, 3, 4, 5]) 3) (egs_cons (eg_n (is := [2, 3, 4, 5]) 4) (egs_cons (eg_n (is := [2, 3, 4, 5]) 5) (egs_nil))))))
  refine el_cons ?_ ?_
  · refine es_if (PW.pt (ew_or (et_not (et_cmp op_lt opd_cmp (ev_b (ev_ix ix_seq opd_ix (eb_var 2) (ev_b (ev_int)))) (ev_b (ev_ix ix_seq opd_ix (eb_var 3) (ev_b (ev_int)))) rfl)) (ew_or (et_cmp (op_neD hr.units) opd_ne (ev_b (ev_ix ix_seq opd_ix (eb_var 4) (ev_b (ev_int)))) (ev_b (ev_ix ix_seq opd_ix (eb_var 3) (ev_b (ev_int)))) rfl) (ew_or1 (et_cmp (op_neD hr.units) opd_ne (ev_b (ev_ix ix_seq opd_ix (eb_var 5) (ev_b (ev_int)))) (ev_b (ev_ix ix_seq opd_ix (eb_var 2) (ev_b (ev_int)))) rfl))))) ?_ ?_
    · refine el_one ?_
      exact es_ret (ev_bl)
    · exact el_nil
  refine el_cons ?_ ?_
  · refine es_if (PW.pt (ew_or (et_cmp (op_neD hr.units) opd_ne (ev_b (ev_ix ix_seq opd_ix (eb_var 2) (ev_b (ev_int)))) (ev_b (ev_ix ix_seq opd_ix (eb_var 3) (ev_b (ev_int)))) rfl) (ew_or1 (et_cmp (op_neD hr.units) opd_ne (ev_b (ev_ix ix_seq opd_ix (eb_var 4) (ev_b (ev_int)))) (ev_b (ev_ix ix_seq opd_ix (eb_var 5) (ev_b (ev_int)))) rfl)))) ?_ ?_
    · refine el_one ?_
      exact es_ret (ev_bl)
    · exact el_nil
  refine el_one ?_
  exact es_ret (ev_and (ev_cmp (op_eqD hr.units) opd_eq (ev_b (ev_ix ix_seq opd_ix (eb_var 2) (ev_b (ev_int)))) (ev_b (ev_ix ix_seq opd_ix (eb_var 4) (ev_b (ev_int)))) rfl) (ev_one (ev_cmp (op_eqD hr.units) opd_eq (ev_b (ev_ix ix_seq opd_ix (eb_var 3) (ev_b (ev_int)))) (ev_b (ev_ix ix_seq opd_ix (eb_var 5) (ev_b (ev_int)))) rfl)))
theorem ok_is_swap (c : SX K mg) : Df P w K mg base 1 "is_swap" false ["edges", "entry"] [] m_is_swap := by
  obtain ⟨fd, F⟩ := c.d.def_ 1
  exact df_mk F (defD_ok F S_is_swap (hb_is_swap c _)) (c.glo 44) fun _ _ _ _ _ _ us hl => match us, hl with | [_, _], _ => rfl
/- mixed_pairs: slots 0 edges 1 found 2 one 3 first 4 other 5 second -/
abbrev N_mixed_pairs : List Str := ["edges", "found", "one", "first", "other", "second"]
theorem S_mixed_pairs : FnScope N_mixed_pairs ["edges"] (defScope s_mixed_pairs) := ⟨rfl, rfl, rfl, by decide +kernel, rfl, by decide +kernel, by decide +kernel⟩
def lb_mixed_pairs_0 : SS := sIf (tAnd (tOf (eBin dEq (eBin dIx (eVarB 3) (eC (.int 2))) (eBin dIx (eVarB 5) (eC (.int 1))))) (tOf (eBin dNe (eBin dIx (eVarB 3) (eC (.int 0))) (eBin dIx (eVarB 5) (eC (.int 0)))))) (sMut 1 mAppend (aCons (eTup (aCons (eVar 2) (aCons (eVar 4) (aNil)))) (aNil))) (sNext)
def lg_mixed_pairs_0 : SG := gT (([gN 4, gN 5] : List SG).foldr gsCons gsNil)
def lb_mixed_pairs_1 : SS := sFor (iEnS (eVar 0)) (lg_mixed_pairs_0) lb_mixed_pairs_0
def lg_mixed_pairs_1 : SG := gT (([gN 2, gN 3] : List SG).foldr gsCons gsNil)
def b_mixed_pairs : SS := sSeq (sSetF 1 (eLst (aNil)))
    (sSeq (sFor (iEnS (eVar 0)) (lg_mixed_pairs_1) lb_mixed_pairs_1)
    (sRetOwn 1))
def m_mixed_pairs : MF := runB true 6 b_mixed_pairs
theorem hb_mixed_pairs (c : SX K mg) (f : Addr) (cdv : Value) (A : Around) (outer : List PySem.Env) (s : Shared) (H : Hp) (E : XK) (hr : Room 0 (A.deeper (envOfC "mixed_pairs" (defScope s_mixed_pairs) s.heap.objs.size f cdv))) :
    EL (cxOf (L2.CX P w) P w K mg base N_mixed_pairs "mixed_pairs" (defScope s_mixed_pairs) f cdv A outer s H E) (WX0 E) true (defBody s_mixed_pairs) (b_mixed_pairs) := by
  have hN := S_mixed_pairs.nd
  refine el_cons ?_ ?_
  · exact es_setF 1 (ef_lst (eav_nil))
  refine el_cons ?_ ?_
  · refine es_for (eiv_enumS rfl (c.free 0) (ev_var 0)) (eg_tup [gN 2, gN 3] rfl (egs_cons (eg_n (is := [2, 3]) 2) (egs_cons (eg_n (is := [2, 3]) 3) (egs_nil)))) ?_ (passes_of rfl)
    refine el_one ?_
    refine es_for (eiv_enumS rfl (c.free 0) (ev_var 0)) (eg_tup [gN 4, gN 5] rfl (egs_cons (eg_n (is := [4, 5]) 4) (egs_cons (eg_n (is := [4, 5]) 5) (egs_nil)))) ?_ (passes_of rfl)
    refine el_one ?_
    refine es_if (PW.pt (ew_and (et_cmp (op_eqD hr.units) opd_eq (ev_b (ev_ix ix_seq opd_ix (eb_var 3) (ev_b (ev_int)))) (ev_b (ev_ix ix_seq opd_ix (eb_var 5) (ev_b (ev_int)))) rfl) (ew_and1 (et_cmp (op_neD hr.units) opd_ne (ev_b (ev_ix ix_seq opd_ix (eb_var 3) (ev_b (ev_int)))) (ev_b (ev_ix ix_seq opd_ix (eb_var 5) (ev_b (ev_int)))) rfl)))) ?_ ?_
    · refine el_one ?_
      refine es_mut 1 mt_append md_append PySem.F.slot_list_append PySem.F.type_list_append ?_
      exact eav_cons (ev_tup (eav_cons (ev_var 2) (eav_cons (ev_var 4) (eav_nil)))) (eav_nil)
    · exact el_nil
  refine el_one ?_
  exact es_retOwn 1
theorem ok_mixed_pairs (c : SX K mg) : Df P w K mg base 1 "mixed_pairs" true ["edges"] [] m_mixed_pairs := by
  obtain ⟨fd, F⟩ := c.d.def_ 2
  exact df_mk F (defD_ok F S_mixed_pairs (hb_mixed_pairs c _)) (c.glo 45) fun _ _ _ _ _ _ us hl => match us, hl with | [_], _ => rfl
/- swap_table: slots 0 swaps 1 table 2 entry 3 left 4 right -/
abbrev N_swap_table : List Str := ["swaps", "table", "entry", "left", "right"]
theorem S_swap_table : FnScope N_swap_table ["swaps"] (defScope s_swap_table) := ⟨rfl, rfl, rfl, by decide +kernel, rfl, by decide +kernel, by decide +kernel⟩
def lb_swap_table_0 : SS := sSeq (sPar 3 4 (eCallB cTuple (aCons (eSl dSl (eVarB 2) (oNo) (oSo (eC (.int 2)))) (aNil))) (eCallB cTuple (aCons (eSl dSl (eVarB 2) (oSo (eC (.int 2))) (oNo)) (aNil))))
    (sSeq (sDPut' 1 (eVarB 3) (eVar 4))
    (sDPut' 1 (eVarB 4) (eVar 3)))
def b_swap_table : SS := sSeq (sSetF 1 (eC (.dct true [] [])))
    (sSeq (sFor (iSqS (eVar 0)) (gN 2) lb_swap_table_0)
    (sRetOwn 1))
def m_swap_table : MF := runB true 5 b_swap_table
theorem hb_swap_table (c : SX K mg) (f : Addr) (cdv : Value) (A : Around) (outer : List PySem.Env) (s : Shared) (H : Hp) (E : XK) (hr : Room 0 (A.deeper (envOfC "swap_table" (defScope s_swap_table) s.heap.objs.size f cdv))) :
    EL (cxOf (L2.CX P w) P w K mg base N_swap_table "swap_table" (defScope s_swap_table) f cdv A outer s H E) (WX0 E) true (defBody s_swap_table) (b_swap_table) := by
  have hN := S_swap_table.nd
  refine el_cons ?_ ?_
  · exact es_setF 1 (ef_dnew true)
  refine el_cons ?_ ?_
  · refine es_for (eiv_sqS (ev_var 0)) (eg_n (is := [2]) 2) ?_ (passes_of rfl)
    refine el_cons ?_ ?_
    · exact es_par 3 4 (ev_callT call_tuple_of cd_tuple rfl (c.free 3) rfl (ea_cons (ev_b (ev_sl (eb_var 2) (eo_no) (eo_so (ev_int)))) (ea_nil))) (ev_callT call_tuple_of cd_tuple rfl (c.free 3) rfl (ea_cons (ev_b (ev_sl (eb_var 2) (eo_so (ev_int)) (eo_no))) (ea_nil)))
    refine el_cons ?_ ?_
    · exact es_dput 1 (u1 hr) (ev_var 4) (eb_var 3)
    refine el_one ?_
    exact es_dput 1 (u1 hr) (ev_var 3) (eb_var 4)
  refine el_one ?_
  exact es_retOwn 1
theorem ok_swap_table (c : SX K mg) : Df P w K mg base 1 "swap_table" true ["swaps"] [] m_swap_table := by
  obtain ⟨fd, F⟩ := c.d.def_ 3
  exact df_mk F (defD_ok F S_swap_table (hb_swap_table c _)) (c.glo 46) fun _ _ _ _ _ _ us hl => match us, hl with | [_], _ => rfl
/- Net.__len__: slots 0 self -/
abbrev N_Net_len : List Str := ["self"]
theorem S_Net_len : FnScope N_Net_len ["self"] (defScope s_Net_len) := ⟨rfl, rfl, rfl, by decide +kernel, rfl, by decide +kernel, by decide +kernel⟩
def b_Net_len : SS := sRet (eCallB cLen (aCons (eUn (dFld "Net" "lines") (eVarB 0)) (aNil)))
def m_Net_len : MF := runB false 1 b_Net_len
theorem hb_Net_len (c : SX K mg) (f : Addr) (cdv : Value) (A : Around) (outer : List PySem.Env) (s : Shared) (H : Hp) (E : XK) (hr : Room 0 (A.deeper (envOfC "Net.__len__" (defScope s_Net_len) s.heap.objs.size f cdv))) :
    EL (cxOf (L2.CX P w) P w K mg base N_Net_len "Net.__len__" (defScope s_Net_len) f cdv A outer s H E) (WX0 E) false (defBody s_Net_len) (b_Net_len) := by
  have hN := S_Net_len.nd
  have z_Net := z_Net c
  refine el_one ?_
  exact es_ret (ev_callB call_len cd_len rfl (c.free 1) rfl (ea_cons (ev_b (ev_fld "Net" (z_Net.fld "lines") (eb_var 0))) (ea_nil)))
theorem ok_Net_len (c : SX K mg) : Mt P w K mg base 1 "Net" "__len__" false ["self"] [] m_Net_len := by
  obtain ⟨fd, F⟩ := c.d.def_ 4
  exact ⟨⟨_, fd, [], [], He.meth_ok (c.fact 47), defD_ok F S_Net_len (hb_Net_len c _), F.bindsN (fun _ _ _ _ _ _ us hl => match us, hl with | [_], _ => rfl), .nil, repAll_nil⟩, (c.glo 18), He.cls_ok (c.fact 17)⟩
/- _law_bag: slots 0 _law_script 1 _law_salt 2 _law_cell -/
abbrev N_l_bag : List Str := ["_law_script", "_law_salt", "_law_cell"]
theorem S_l_bag : FnScope N_l_bag ["_law_script"] (defScope s_l_bag) := ⟨rfl, rfl, rfl, by decide +kernel, rfl, by decide +kernel, by decide +kernel⟩
def lb_l_bag_0 : SS := sSet 1 (eBin dMod (eBin dAdd (eBin dAdd (eBin dMul (eVarB 1) (eC (.int 60811))) (eBin dMod (eVarB 2) (eC (.int 2147483579)))) (eC (.int 23))) (eC (.int 2147483647)))
def b_l_bag : SS := sSeq (sSet 1 (eC (.int 9477)))
    (sSeq (sFor (iSqS (eSl dSl (eVarB 0) (oNo) (oSo (eC (.int 63))))) (gN 2) lb_l_bag_0)
    (sRet (eLst (aCons (eCallB cList (aCons (eSl dSl (eVarB 0) (oNo) (oSo (eC (.int 63)))) (aNil))) (aCons (eC (.int 0)) (aCons (eC (.int 0)) (aCons (eVar 1) (aCons (eC (.int 0)) (aNil)))))))))
def m_l_bag : MF := runB true 3 b_l_bag
theorem hb_l_bag (c : SX K mg) (f : Addr) (cdv : Value) (A : Around) (outer : List PySem.Env) (s : Shared) (H : Hp) (E : XK) (hr : Room 0 (A.deeper (envOfC "_law_bag" (defScope s_l_bag) s.heap.objs.size f cdv))) :
    EL (cxOf (L2.CX P w) P w K mg base N_l_bag "_law_bag" (defScope s_l_bag) f cdv A outer s H E) (WX0 E) true (defBody s_l_bag) (b_l_bag) := by
  have hN := S_l_bag.nd
  refine el_cons ?_ ?_
  · exact es_set 1 (ev_int)
  refine el_cons ?_ ?_
  · refine es_for (eiv_sqS (ev_sl (eb_var 0) (eo_no) (eo_so (ev_int)))) (eg_n (is := [2]) 2) ?_ (passes_of rfl)
    refine el_one ?_
    exact es_set 1 (ev_op op_modN opd_mod (ev_b (ev_op op_addA opd_add (ev_b (ev_op op_addA opd_add (ev_b (ev_op op_mulA opd_mul (eb_var 1) (ev_b (ev_int)))) (ev_b (ev_op op_modN opd_mod (eb_var 2) (ev_b (ev_int)))))) (ev_b (ev_int)))) (ev_b (ev_int)))
  refine el_one ?_
  exact es_retF (ef_lst (eav_cons (ef_v (ef_callT call_list_of cf_list rfl (c.free 4) rfl (ea_cons (ev_b (ev_sl (eb_var 0) (eo_no) (eo_so (ev_int)))) (ea_nil)))) (eav_cons (ev_int) (eav_cons (ev_int) (eav_cons (ev_var 1) (eav_cons (ev_int) (eav_nil)))))))
theorem ok_l_bag (c : SX K mg) : Df P w K mg base 1 "_law_bag" true ["_law_script"] [] m_l_bag := by
  obtain ⟨fd, F⟩ := c.d.def_ 5
  exact df_mk F (defD_ok F S_l_bag (hb_l_bag c _)) (c.glo 48) fun _ _ _ _ _ _ us hl => match us, hl with | [_], _ => rfl
/- _law_take: slots 0 _law_bag_here 1 _law_sides 2 _law_cell 3 _law_got 4 _law_seed -/
abbrev N_l_take : List Str := ["_law_bag_here", "_law_sides", "_law_cell", "_law_got", "_law_seed"]
theorem S_l_take : FnScope N_l_take ["_law_bag_here", "_law_sides"] (defScope s_l_take) := ⟨rfl, rfl, rfl, by decide +kernel, rfl, by decide +kernel, by decide +kernel⟩
def b_l_take : SS := sSeq (sIf (tAnd (tOf (eBin dEq (eIoIx 0 2) (eC (.int 0)))) (tOf (eBin dLt (eIoIx 0 1) (eCallB cLen (aCons (eIoIx 0 0) (aNil)))))) (sSeq (sSet 2 (eBin dIx (eIoIx 0 0) (eIoIx 0 1)))
    (sSeq (sPut 0 (eC (.int 1)) (eBin dAdd (eIoIx 0 1) (eC (.int 1))))
    (sIf (tOf (eBin dGe (eVarB 2) (eBin dPow (eC (.int 10)) (eC (.int 18))))) (sPut 0 (eC (.int 2)) (eVar 2)) (sPut 0 (eC (.int 3)) (eBin dMod (eBin dAdd (eBin dAdd (eBin dMul (eIoIx 0 3) (eC (.int 40013))) (eBin dMod (eVarB 2) (eC (.int 2147483563)))) (eC (.int 7))) (eC (.int 2147483647))))))) (sNext))
    (sSeq (sIf (tOf (eBin dGt (eIoIx 0 2) (eC (.int 0)))) (sSeq (sSet 3 (eBin dMod (eIoIx 0 2) (eVarB 1)))
    (sSeq (sPut 0 (eC (.int 2)) (eBin dFdiv (eIoIx 0 2) (eVarB 1)))
    (sRet (eVar 3)))) (sNext))
    (sSeq (sPut 0 (eC (.int 4)) (eBin dAdd (eIoIx 0 4) (eC (.int 1))))
    (sSeq (sSet 4 (eBin dMod (eBin dAdd (eIoIx 0 3) (eBin dMul (eIoIx 0 4) (eC (.int 9241)))) (eC (.int 2147483647))))
    (sSeq (sPut 0 (eC (.int 3)) (eBin dMod (eBin dAdd (eBin dAdd (eBin dPow (eVarB 4) (eC (.int 3))) (eBin dMul (eC (.int 50021)) (eVarB 4))) (eC (.int 4099))) (eC (.int 2147483647))))
    (sRet (eBin dMod (eBin dAdd (eBin dFdiv (eIoIx 0 3) (eC (.int 67))) (eBin dMul (eBin dMod (eIoIx 0 3) (eC (.int 7919))) (eC (.int 37)))) (eVarB 1)))))))
def m_l_take : MF := runB false 5 b_l_take
theorem hb_l_take (c : SX K mg) (f : Addr) (cdv : Value) (A : Around) (outer : List PySem.Env) (s : Shared) (H : Hp) (E : XK) (hr : Room 0 (A.deeper (envOfC "_law_take" (defScope s_l_take) s.heap.objs.size f cdv))) :
    EL (cxOf (L2.CX P w) P w K mg base N_l_take "_law_take" (defScope s_l_take) f cdv A outer s H E) (WX0 E) false (defBody s_l_take) (b_l_take) := by
  have hN := S_l_take.nd
  refine el_cons ?_ ?_
  · refine es_if (PW.pt (ew_and (et_cmp (op_eqD hr.units) opd_eq (ev_b (ev_ioix 0)) (ev_b (ev_int)) rfl) (ew_and1 (et_cmp op_lt opd_cmp (ev_b (ev_ioix 0)) (ev_b (ev_callB call_len cd_len rfl (c.free 1) rfl (ea_cons (ev_b (ev_ioix 0)) (ea_nil)))) rfl)))) ?_ ?_
    · refine el_cons ?_ ?_
      · exact es_set 2 (ev_ix ix_seq opd_ix (ev_b (ev_ioix 0)) (ev_b (ev_ioix 0)))
      refine el_cons ?_ ?_
      · exact es_put 0 (ev_op op_addA opd_add (ev_b (ev_ioix 0)) (ev_b (ev_int))) (ev_b (ev_int))
      refine el_one ?_
      refine es_if (et_cmp op_geV opd_cmp (eb_var 2) (ev_b (ev_op op_pow opd_pow (ev_b (ev_int)) (ev_b (ev_int)))) rfl) ?_ ?_
      · refine el_one ?_
        exact es_put 0 (ev_var 2) (ev_b (ev_int))
      · refine el_one ?_
        exact es_put 0 (ev_op op_modN opd_mod (ev_b (ev_op op_addA opd_add (ev_b (ev_op op_addA opd_add (ev_b (ev_op op_mulA opd_mul (ev_b (ev_ioix 0)) (ev_b (ev_int)))) (ev_b (ev_op op_modN opd_mod (eb_var 2) (ev_b (ev_int)))))) (ev_b (ev_int)))) (ev_b (ev_int))) (ev_b (ev_int))
    · exact el_nil
  refine el_cons ?_ ?_
  · refine es_if (et_cmp op_gtV opd_cmp (ev_b (ev_ioix 0)) (ev_b (ev_int)) rfl) ?_ ?_
    · refine el_cons ?_ ?_
      · exact es_set 3 (ev_op op_modN opd_mod (ev_b (ev_ioix 0)) (eb_var 1))
      refine el_cons ?_ ?_
      · exact es_put 0 (ev_op op_fdivW opd_fdiv (ev_b (ev_ioix 0)) (eb_var 1)) (ev_b (ev_int))
      refine el_one ?_
      exact es_ret (ev_var 3)
    · exact el_nil
  refine el_cons ?_ ?_
  · exact es_put 0 (ev_op op_addA opd_add (ev_b (ev_ioix 0)) (ev_b (ev_int))) (ev_b (ev_int))
  refine el_cons ?_ ?_
  · exact es_set 4 (ev_op op_modN opd_mod (ev_b (ev_op op_addA opd_add (ev_b (ev_ioix 0)) (ev_b (ev_op op_mulA opd_mul (ev_b (ev_ioix 0)) (ev_b (ev_int)))))) (ev_b (ev_int)))
  refine el_cons ?_ ?_
  · exact es_put 0 (ev_op op_modN opd_mod (ev_b (ev_op op_addA opd_add (ev_b (ev_op op_addA opd_add (ev_b (ev_op op_pow opd_pow (eb_var 4) (ev_b (ev_int)))) (ev_b (ev_op op_mulA opd_mul (ev_b (ev_int)) (eb_var 4))))) (ev_b (ev_int)))) (ev_b (ev_int))) (ev_b (ev_int))
  refine el_one ?_
  exact es_ret (ev_op op_modN opd_mod (ev_b (ev_op op_addA opd_add (ev_b (ev_op op_fdivW opd_fdiv (ev_b (ev_ioix 0)) (ev_b (ev_int)))) (ev_b (ev_op op_mulA opd_mul (ev_b (ev_op op_modN opd_mod (ev_b (ev_ioix 0)) (ev_b (ev_int)))) (ev_b (ev_int)))))) (eb_var 1))
theorem ok_l_take (c : SX K mg) : Df P w K mg base 1 "_law_take" false ["_law_bag_here", "_law_sides"] [] m_l_take := by
  obtain ⟨fd, F⟩ := c.d.def_ 6
  exact df_mk F (defD_ok F S_l_take (hb_l_take c _)) (c.glo 49) fun _ _ _ _ _ _ us hl => match us, hl with | [_, _], _ => rfl
/- _law_size_fault: slots 0 _law_sketch -/
abbrev N_l_size_fault : List Str := ["_law_sketch"]
theorem S_l_size_fault : FnScope N_l_size_fault ["_law_sketch"] (defScope s_l_size_fault) := ⟨rfl, rfl, rfl, by decide +kernel, rfl, by decide +kernel, by decide +kernel⟩
def b_l_size_fault : SS := sSeq (sIf (tNot (tOf (eChain dLe dLe (eC (.int 1)) (eBin dIx (eVarB 0) (eC (.int 0))) (eC (.int 3))))) (sRet (eTup (aCons (eC (.str "no")) (aCons (eC (.str "BadNumber")) (aCons (eBin dIx (eVarB 0) (eC (.int 0))) (aNil)))))) (sNext))
    (sSeq (sIf (tOf (eBin dLt (eBin dIx (eVarB 0) (eC (.int 1))) (eC (.int 1)))) (sRet (eTup (aCons (eC (.str "no")) (aCons (eC (.str "BadNumber")) (aCons (eBin dIx (eVarB 0) (eC (.int 1))) (aNil)))))) (sNext))
    (sSeq (sIf (tOf (eBin dGt (eBin dIx (eVarB 0) (eC (.int 1))) (eC (.int 30)))) (sRet (eTup (aCons (eC (.str "no")) (aCons (eC (.str "Full")) (aCons (eC (.int 30)) (aNil)))))) (sNext))
    (sRet (eIf (tOf (eBin dGt (eCallB cLen (aCons (eBin dIx (eVarB 0) (eC (.int 2))) (aNil))) (eC (.int 120)))) (eTup (aCons (eC (.str "no")) (aCons (eC (.str "Full")) (aCons (eC (.int 120)) (aNil))))) (eC .non)))))
def m_l_size_fault : MF := runB false 1 b_l_size_fault
theorem hb_l_size_fault (c : SX K mg) (f : Addr) (cdv : Value) (A : Around) (outer : List PySem.Env) (s : Shared) (H : Hp) (E : XK) (hr : Room 0 (A.deeper (envOfC "_law_size_fault" (defScope s_l_size_fault) s.heap.objs.size f cdv))) :
    EL (cxOf (L2.CX P w) P w K mg base N_l_size_fault "_law_size_fault" (defScope s_l_size_fault) f cdv A outer s H E) (WX0 E) false (defBody s_l_size_fault) (b_l_size_fault) := by
  have hN := S_l_size_fault.nd
  refine el_cons ?_ ?_
  · refine es_if (et_not (et_chain op_le op_le blo_cmp opd_cmp opd_cmp (ev_b (ev_int)) (ev_b (ev_ix ix_seq opd_ix (eb_var 0) (ev_b (ev_int)))) (ev_b (ev_int)))) ?_ ?_
    · refine el_one ?_
      exact es_ret (ev_tup (eav_cons (ev_str) (eav_cons (ev_str) (eav_cons (ev_ix ix_seq opd_ix (eb_var 0) (ev_b (ev_int))) (eav_nil)))))
    · exact el_nil
  refine el_cons ?_ ?_
  · refine es_if (et_cmp op_lt opd_cmp (ev_b (ev_ix ix_seq opd_ix (eb_var 0) (ev_b (ev_int)))) (ev_b (ev_int)) rfl) ?_ ?_
    · refine el_one ?_
      exact es_ret (ev_tup (eav_cons (ev_str) (eav_cons (ev_str) (eav_cons (ev_ix ix_seq opd_ix (eb_var 0) (ev_b (ev_int))) (eav_nil)))))
    · exact el_nil
  refine el_cons ?_ ?_
  · refine es_if (et_cmp op_gtV opd_cmp (ev_b (ev_ix ix_seq opd_ix (eb_var 0) (ev_b (ev_int)))) (ev_b (ev_int)) rfl) ?_ ?_
    · refine el_one ?_
      exact es_ret (ev_tup (eav_cons (ev_str) (eav_cons (ev_str) (eav_cons (ev_int) (eav_nil)))))
    · exact el_nil
  refine el_one ?_
  exact es_ret (ev_if (et_cmp op_gtV opd_cmp (ev_b (ev_callB call_len cd_len rfl (c.free 1) rfl (ea_cons (ev_b (ev_ix ix_seq opd_ix (eb_var 0) (ev_b (ev_int)))) (ea_nil)))) (ev_b (ev_int)) rfl) (ev_tup (eav_cons (ev_str) (eav_cons (ev_str) (eav_cons (ev_int) (eav_nil))))) (ev_non))
theorem ok_l_size_fault (c : SX K mg) : Df P w K mg base 1 "_law_size_fault" false ["_law_sketch"] [] m_l_size_fault := by
  obtain ⟨fd, F⟩ := c.d.def_ 7
  exact df_mk F (defD_ok F S_l_size_fault (hb_l_size_fault c _)) (c.glo 50) fun _ _ _ _ _ _ us hl => match us, hl with | [_], _ => rfl
/- _law_is_entry: slots 0 _law_lines 1 _law_entry 2 _law_a 3 _law_b 4 _law_c 5 _law_d 6 _law_e -/
abbrev N_l_is_entry : List Str := ["_law_lines", "_law_entry", "_law_a", "_law_b", "_law_c", "_law_d", "_law_e"]
theorem S_l_is_entry : FnScope N_l_is_entry ["_law_lines", "_law_entry"] (defScope s_l_is_entry) := ⟨rfl, rfl, rfl, by decide +kernel, rfl, by decide +kernel, by decide +kernel⟩
def b_l_is_entry : SS := sSeq (sIf (tOr (tOf (eBin dNe (eCallB cLen (aCons (eVarB 1) (aNil))) (eC (.int 4)))) (tNot (tOf (eCallB cAll (aCons (eLc (iSqS (eVar 1)) (gN 6) [6] (tYes) (eChain dLe dLt (eC (.int 0)) (eVarB 6) (eCallB cLen (aCons (eVarB 0) (aNil))))) (aNil)))))) (sRet (eC (.bl false))) (sNext))
    (sSeq (sTgt (gT (([gN 2, gN 3, gN 4, gN 5] : List SG).foldr gsCons gsNil)) (eLc (iSqS (eVar 1)) (gN 6) [6] (tYes) (eBin dIx (eVarB 0) (eVarB 6))))
    (sSeq (sIf (tOr (tOf (eBin dGe (eBin dIx (eVarB 2) (eC (.int 0))) (eBin dIx (eVarB 3) (eC (.int 0))))) (tOr (tOf (eBin dNe (eBin dIx (eVarB 4) (eC (.int 0))) (eBin dIx (eVarB 3) (eC (.int 0))))) (tOf (eBin dNe (eBin dIx (eVarB 5) (eC (.int 0))) (eBin dIx (eVarB 2) (eC (.int 0))))))) (sRet (eC (.bl false))) (sNext))
    (sRet (eAnd (eBin dEq (eBin dIx (eVarB 2) (eC (.int 2))) (eBin dIx (eVarB 3) (eC (.int 1)))) (eAnd (eBin dEq (eBin dIx (eVarB 4) (eC (.int 2))) (eBin dIx (eVarB 5) (eC (.int 1)))) (eAnd (eBin dEq (eBin dIx (eVarB 2) (eC (.int 1))) (eBin dIx (eVarB 4) (eC (.int 1)))) (eBin dEq (eBin dIx (eVarB 3) (eC (.int 2))) (eBin dIx (eVarB 5) (eC (.int 2))))))))))
def m_l_is_entry : MF := runB false 7 b_l_is_entry
theorem hb_l_is_entry (c : SX K mg) (f : Addr) (cdv : Value) (A : Around) (outer : List PySem.Env) (s : Shared) (H : Hp) (E : XK) (hr : Room 0 (A.deeper (envOfC "_law_is_entry" (defScope s_l_is_entry) s.heap.objs.size f cdv))) :
    EL (cxOf (L2.CX P w) P w K mg base N_l_is_entry "_law_is_entry" (defScope s_l_is_entry) f cdv A outer s H E) (WX0 E) false (defBody s_l_is_entry) (b_l_is_entry) := by
  have hN := S_l_is_entry.nd
  refine el_cons ?_ ?_
  · refine es_if (PW.pt (ew_or (et_cmp (op_neD hr.units) opd_ne (ev_b (ev_callB call_len cd_len rfl (c.free 1) rfl (ea_cons (eb_var 1) (ea_nil)))) (ev_b (ev_int)) rfl) (ew_or1 (et_not (et_val (ev_callB (cr_all rfl) cd_all rfl (c.free 2) rfl (ea_cons (ev_b (ef_v (ef_lc [("_law_e", 6)] (eiv_b (eiv_sqS (ev_var 1))) (blkOk_by rfl) (fun _ _ _ _ _ => eg_n (is := [6]) 6) (fun _ _ _ _ _ => ets_nil) (fun _ _ _ _ _ => ev_chain op_le op_lt blo_cmp opd_cmp opd_cmp (ev_b (ev_int)) (eb_var 6) (ev_b (ev_callB call_len cd_len rfl (c.free 1) rfl (ea_cons (eb_var 0) (ea_nil)))))))) (ea_nil)))))))) ?_ ?_
    · refine el_one ?_
      exact es_ret (ev_bl)
    · exact el_nil
  refine el_cons ?_ ?_
  · exact es_tgt (ef_v (ef_lc [("_law_e", 6)] (eiv_b (eiv_sqS (ev_var 1))) (blkOk_by rfl) (fun _ _ _ _ _ => eg_n (is := [6]) 6) (fun _ _ _ _ _ => ets_nil) (fun _ _ _ _ _ => ev_ix ix_seq opd_ix (eb_var 0) (eb_var 6)))) (eg_tup [gN 2, gN 3, gN 4, gN 5] rfl (egs_cons (eg_n (is := [2, 3, 4, 5]) 2) (egs_cons (eg_n (is := [2, 3, 4, 5]) 3) (egs_cons (eg_n (is := [2, 3, 4, 5]) 4) (egs_cons (eg_n (is := [2, 3, 4, 5]) 5) (egs_nil))))))
  refine el_cons ?_ ?_
  · refine es_if (PW.pt (ew_or (et_cmp op_geV opd_cmp (ev_b (ev_ix ix_seq opd_ix (eb_var 2) (ev_b (ev_int)))) (ev_b (ev_ix ix_seq opd_ix (eb_var 3) (ev_b (ev_int)))) rfl) (ew_or (et_cmp (op_neD hr.units) opd_ne (ev_b (ev_ix ix_seq opd_ix (eb_var 4) (ev_b (ev_int)))) (ev_b (ev_ix ix_seq opd_ix (eb_var 3) (ev_b (ev_int)))) rfl) (ew_or1 (et_cmp (op_neD hr.units) opd_ne (ev_b (ev_ix ix_seq opd_ix (eb_var 5) (ev_b (ev_int)))) (ev_b (ev_ix ix_seq opd_ix (eb_var 2) (ev_b (ev_int)))) rfl))))) ?_ ?_
    · refine el_one ?_
      exact es_ret (ev_bl)
    · exact el_nil
  refine el_one ?_
  exact es_ret (ev_and (ev_cmp (op_eqD hr.units) opd_eq (ev_b (ev_ix ix_seq opd_ix (eb_var 2) (ev_b (ev_int)))) (ev_b (ev_ix ix_seq opd_ix (eb_var 3) (ev_b (ev_int)))) rfl) (ev_and (ev_cmp (op_eqD hr.units) opd_eq (ev_b (ev_ix ix_seq opd_ix (eb_var 4) (ev_b (ev_int)))) (ev_b (ev_ix ix_seq opd_ix (eb_var 5) (ev_b (ev_int)))) rfl) (ev_and (ev_cmp (op_eqD hr.units) opd_eq (ev_b (ev_ix ix_seq opd_ix (eb_var 2) (ev_b (ev_int)))) (ev_b (ev_ix ix_seq opd_ix (eb_var 4) (ev_b (ev_int)))) rfl) (ev_one (ev_cmp (op_eqD hr.units) opd_eq (ev_b (ev_ix ix_seq opd_ix (eb_var 3) (ev_b (ev_int)))) (ev_b (ev_ix ix_seq opd_ix (eb_var 5) (ev_b (ev_int)))) rfl)))))
theorem ok_l_is_entry (c : SX K mg) : Df P w K mg base 1 "_law_is_entry" false ["_law_lines", "_law_entry"] [] m_l_is_entry := by
  obtain ⟨fd, F⟩ := c.d.def_ 8
  exact df_mk F (defD_ok F S_l_is_entry (hb_l_is_entry c _)) (c.glo 51) fun _ _ _ _ _ _ us hl => match us, hl with | [_, _], _ => rfl
/- swap_fault: slots 0 edges 1 swaps 2 at 3 entry 4 known 5 left 6 right -/
abbrev N_swap_fault : List Str := ["edges", "swaps", "at", "entry", "known", "left", "right"]
theorem S_swap_fault : FnScope N_swap_fault ["edges", "swaps"] (defScope s_swap_fault) := ⟨rfl, rfl, rfl, by decide +kernel, rfl, by decide +kernel, by decide +kernel⟩
def lb_swap_fault_0 : SS := sIf (tNot (tOf (eCall m_is_swap (rCons (eVar 0) (rCons (eVar 3) (rNil)))))) (sRet (eTup (aCons (eC (.str "swap")) (aCons (eVar 2) (aNil))))) (sNext)
def lg_swap_fault_0 : SG := gT (([gN 2, gN 3] : List SG).foldr gsCons gsNil)
def lb_swap_fault_1 : SS := sSeq (sPar 5 6 (eCallB cTuple (aCons (eSl dSl (eVarB 3) (oNo) (oSo (eC (.int 2)))) (aNil))) (eCallB cTuple (aCons (eSl dSl (eVarB 3) (oSo (eC (.int 2))) (oNo)) (aNil))))
    (sSeq (sIf (tOr (tOf (eBin dDin (eVarB 5) (eVarB 4))) (tOf (eBin dDin (eVarB 6) (eVarB 4)))) (sRet (eTup (aCons (eC (.str "twice")) (aCons (eVar 2) (aNil))))) (sNext))
    (sSeq (sDPut' 4 (eVarB 5) (eC (.bl true)))
    (sDPut' 4 (eVarB 6) (eC (.bl true)))))
def lg_swap_fault_1 : SG := gT (([gN 2, gN 3] : List SG).foldr gsCons gsNil)
def b_swap_fault : SS := sSeq (sFor (iEnS (eVar 1)) (lg_swap_fault_0) lb_swap_fault_0)
    (sSeq (sSetF 4 (eC (.dct true [] [])))
    (sSeq (sFor (iEnS (eVar 1)) (lg_swap_fault_1) lb_swap_fault_1)
    (sRet (eC .non))))
def m_swap_fault : MF := runB false 7 b_swap_fault
theorem hb_swap_fault (c : SX K mg) (f : Addr) (cdv : Value) (A : Around) (outer : List PySem.Env) (s : Shared) (H : Hp) (E : XK) (hr : Room 1 (A.deeper (envOfC "swap_fault" (defScope s_swap_fault) s.heap.objs.size f cdv))) :
    EL (cxOf (L2.CX P w) P w K mg base N_swap_fault "swap_fault" (defScope s_swap_fault) f cdv A outer s H E) (WX0 E) false (defBody s_swap_fault) (b_swap_fault) := by
  have hN := S_swap_fault.nd
  refine el_cons ?_ ?_
  · refine es_for (eiv_enumS rfl (c.free 0) (ev_var 1)) (eg_tup [gN 2, gN 3] rfl (egs_cons (eg_n (is := [2, 3]) 2) (egs_cons (eg_n (is := [2, 3]) 3) (egs_nil)))) ?_ (passes_of rfl)
    refine el_one ?_
    refine es_if (et_not (et_val (ev_c (ok_is_swap c) hr (an_cons (ev_var 0) (an_cons (ev_var 3) (an_nil)))))) ?_ ?_
    · refine el_one ?_
      exact es_ret (ev_tup (eav_cons (ev_str) (eav_cons (ev_var 2) (eav_nil))))
    · exact el_nil
  refine el_cons ?_ ?_
  · exact es_setF 4 (ef_dnew true)
  refine el_cons ?_ ?_
  · refine es_for (eiv_enumS rfl (c.free 0) (ev_var 1)) (eg_tup [gN 2, gN 3] rfl (egs_cons (eg_n (is := [2, 3]) 2) (egs_cons (eg_n (is := [2, 3]) 3) (egs_nil)))) ?_ (passes_of rfl)
    refine el_cons ?_ ?_
    · exact es_par 5 6 (ev_callT call_tuple_of cd_tuple rfl (c.free 3) rfl (ea_cons (ev_b (ev_sl (eb_var 3) (eo_no) (eo_so (ev_int)))) (ea_nil))) (ev_callT call_tuple_of cd_tuple rfl (c.free 3) rfl (ea_cons (ev_b (ev_sl (eb_var 3) (eo_so (ev_int)) (eo_no))) (ea_nil)))
    refine el_cons ?_ ?_
    · refine es_if (PW.pt (ew_or (et_din (u1 hr) (eb_var 5) (eb_var 4)) (ew_or1 (et_din (u1 hr) (eb_var 6) (eb_var 4))))) ?_ ?_
      · refine el_one ?_
        exact es_ret (ev_tup (eav_cons (ev_str) (eav_cons (ev_var 2) (eav_nil))))
      · exact el_nil
    refine el_cons ?_ ?_
    · exact es_dput 4 (u1 hr) (ev_bl) (eb_var 5)
    refine el_one ?_
    exact es_dput 4 (u1 hr) (ev_bl) (eb_var 6)
  refine el_one ?_
  exact es_ret (ev_non)
theorem ok_swap_fault (c : SX K mg) : Df P w K mg base 2 "swap_fault" false ["edges", "swaps"] [] m_swap_fault := by
  obtain ⟨fd, F⟩ := c.d.def_ 9
  exact df_mk F (defD_ok F S_swap_fault (hb_swap_fault c _)) (c.glo 52) fun _ _ _ _ _ _ us hl => match us, hl with | [_, _], _ => rfl
/- cube_fault: slots 0 edges 1 table 2 one 3 other 4 last 5 edge 6 word -/
abbrev N_cube_fault : List Str := ["edges", "table", "one", "other", "last", "edge", "word"]
theorem S_cube_fault : FnScope N_cube_fault ["edges", "table"] (defScope s_cube_fault) := ⟨rfl, rfl, rfl, by decide +kernel, rfl, by decide +kernel, by decide +kernel⟩
def lb_cube_fault_0 : SS := sBad
def lg_cube_fault_0 : SG := gT (([gN 2, gN 3] : List SG).foldr gsCons gsNil)
def b_cube_fault : SS := sSeq (sFor (iSqS (eCall m_mixed_pairs (rCons (eVar 0) (rNil)))) (lg_cube_fault_0) lb_cube_fault_0)
    (sRet (eC .non))
def m_cube_fault : MF := runB false 7 b_cube_fault
theorem hb_cube_fault (c : SX K mg) (f : Addr) (cdv : Value) (A : Around) (outer : List PySem.Env) (s : Shared) (H : Hp) (E : XK) (hr : Room 1 (A.deeper (envOfC "cube_fault" (defScope s_cube_fault) s.heap.objs.size f cdv))) :
    EL (cxOf (L2.CX P w) P w K mg base N_cube_fault "cube_fault" (defScope s_cube_fault) f cdv A outer s H E) (WX0 E) false (defBody s_cube_fault) (b_cube_fault) := by
  have hN := S_cube_fault.nd
  refine el_cons ?_ ?_
  · refine es_for (eiv_sqS (ef_v (ef_c (ok_mixed_pairs c) hr (an_cons (ev_var 0) (an_nil))))) (eg_tup [gN 2, gN 3] rfl (egs_cons (eg_n (is := [2, 3]) 2) (egs_cons (eg_n (is := [2, 3]) 3) (egs_nil)))) ?_ (passes_of rfl)
    refine el_one ?_
    exact es_bad
  refine el_one ?_
  exact es_ret (ev_non)
theorem ok_cube_fault (c : SX K mg) : Df P w K mg base 2 "cube_fault" false ["edges", "table"] [] m_cube_fault := by
  obtain ⟨fd, F⟩ := c.d.def_ 10
  exact df_mk F (defD_ok F S_cube_fault (hb_cube_fault c _)) (c.glo 53) fun _ _ _ _ _ _ us hl => match us, hl with | [_, _], _ => rfl
/- sides_left: slots 0 edges 1 swaps 2 table 3 rising 4 falling 5 one 6 other 7 lots -/
abbrev N_sides_left : List Str := ["edges", "swaps", "table", "rising", "falling", "one", "other", "lots"]
theorem S_sides_left : FnScope N_sides_left ["edges", "swaps"] (defScope s_sides_left) := ⟨rfl, rfl, rfl, by decide +kernel, rfl, by decide +kernel, by decide +kernel⟩
def lb_sides_left_0 : SS := sBad
def lg_sides_left_0 : SG := gT (([gN 5, gN 6] : List SG).foldr gsCons gsNil)
def b_sides_left : SS := sSeq (sSet 2 (eCall m_swap_table (rCons (eVar 1) (rNil))))
    (sSeq (sPar 3 4 (eC (.dct false [] [])) (eC (.dct false [] [])))
    (sSeq (sFor (iSqS (eCall m_mixed_pairs (rCons (eVar 0) (rNil)))) (lg_sides_left_0) lb_sides_left_0)
    (sRet (eTup (aCons (eVar 3) (aCons (eVar 4) (aNil)))))))
def m_sides_left : MF := runB false 8 b_sides_left
theorem hb_sides_left (c : SX K mg) (f : Addr) (cdv : Value) (A : Around) (outer : List PySem.Env) (s : Shared) (H : Hp) (E : XK) (hr : Room 1 (A.deeper (envOfC "sides_left" (defScope s_sides_left) s.heap.objs.size f cdv))) :
    EL (cxOf (L2.CX P w) P w K mg base N_sides_left "sides_left" (defScope s_sides_left) f cdv A outer s H E) (WX0 E) false (defBody s_sides_left) (b_sides_left) := by
  have hN := S_sides_left.nd
  refine el_cons ?_ ?_
  · exact es_set 2 (ef_v (ef_c (ok_swap_table c) hr (an_cons (ev_var 1) (an_nil))))
  refine el_cons ?_ ?_
  · exact es_par 3 4 (ef_v (ef_dnew false)) (ef_v (ef_dnew false))
  refine el_cons ?_ ?_
  · refine es_for (eiv_sqS (ef_v (ef_c (ok_mixed_pairs c) hr (an_cons (ev_var 0) (an_nil))))) (eg_tup [gN 5, gN 6] rfl (egs_cons (eg_n (is := [5, 6]) 5) (egs_cons (eg_n (is := [5, 6]) 6) (egs_nil)))) ?_ (passes_of rfl)
    refine el_one ?_
    exact es_bad
  refine el_one ?_
  exact es_ret (ev_tup (eav_cons (ev_var 3) (eav_cons (ev_var 4) (eav_nil))))
theorem ok_sides_left (c : SX K mg) : Df P w K mg base 2 "sides_left" false ["edges", "swaps"] [] m_sides_left := by
  obtain ⟨fd, F⟩ := c.d.def_ 11
  exact df_mk F (defD_ok F S_sides_left (hb_sides_left c _)) (c.glo 54) fun _ _ _ _ _ _ us hl => match us, hl with | [_, _], _ => rfl
/- _law_pick: slots 0 _law_bag_here 1 _law_some -/
abbrev N_l_pick : List Str := ["_law_bag_here", "_law_some"]
theorem S_l_pick : FnScope N_l_pick ["_law_bag_here", "_law_some"] (defScope s_l_pick) := ⟨rfl, rfl, rfl, by decide +kernel, rfl, by decide +kernel, by decide +kernel⟩
def b_l_pick : SS := sRet (eBin dIx (eVarB 1) (eCallIo m_l_take (rIo 0 (rCons (eCallB cLen (aCons (eVarB 1) (aNil))) (rNil)))))
def m_l_pick : MF := runB false 2 b_l_pick
theorem hb_l_pick (c : SX K mg) (f : Addr) (cdv : Value) (A : Around) (outer : List PySem.Env) (s : Shared) (H : Hp) (E : XK) (hr : Room 1 (A.deeper (envOfC "_law_pick" (defScope s_l_pick) s.heap.objs.size f cdv))) :
    EL (cxOf (L2.CX P w) P w K mg base N_l_pick "_law_pick" (defScope s_l_pick) f cdv A outer s H E) (WX0 E) false (defBody s_l_pick) (b_l_pick) := by
  have hN := S_l_pick.nd
  refine el_one ?_
  exact es_ret (ev_ix ix_seq opd_ix (eb_var 1) (ev_b (ev_cIo (ok_l_take c) hr (an_io 0 (an_cons (ev_callB call_len cd_len rfl (c.free 1) rfl (ea_cons (eb_var 1) (ea_nil))) (an_nil))))))
theorem ok_l_pick (c : SX K mg) : Df P w K mg base 2 "_law_pick" false ["_law_bag_here", "_law_some"] [] m_l_pick := by
  obtain ⟨fd, F⟩ := c.d.def_ 12
  exact df_mk F (defD_ok F S_l_pick (hb_l_pick c _)) (c.glo 55) fun _ _ _ _ _ _ us hl => match us, hl with | [_, _], _ => rfl
/- _law_rough_fault: slots 0 _law_sketch 1 _law_hues 2 _law_knots 3 _law_lines 4 _law_entries 5 _law_at 6 _law_hue 7 _law_source 8 _law_target 9 _law_seen 10 _law_left 11 _law_right -/
abbrev N_l_rough_fault : List Str := ["_law_sketch", "_law_hues", "_law_knots", "_law_lines", "_law_entries", "_law_at", "_law_hue", "_law_source", "_law_target", "_law_seen", "_law_left", "_law_right"]
theorem S_l_rough_fault : FnScope N_l_rough_fault ["_law_sketch"] (defScope s_l_rough_fault) := ⟨rfl, rfl, rfl, by decide +kernel, rfl, by decide +kernel, by decide +kernel⟩
def lb_l_rough_fault_0 : SS := sSeq (sTgt (gT (([gN 6, gN 7, gN 8] : List SG).foldr gsCons gsNil)) (eBin dIx (eVarB 3) (eVarB 5)))
    (sIf (tOr (tNot (tOf (eChain dLe dLt (eC (.int 0)) (eVarB 6) (eVarB 1)))) (tOr (tNot (tOf (eChain dLe dLt (eC (.int 0)) (eVarB 7) (eVarB 2)))) (tNot (tOf (eChain dLe dLt (eC (.int 0)) (eVarB 8) (eVarB 2)))))) (sRet (eTup (aCons (eC (.str "edge")) (aCons (eVar 5) (aNil))))) (sNext))
def lb_l_rough_fault_1 : SS := sIf (tNot (tOf (eCall m_l_is_entry (rCons (eVar 3) (rCons (eBin dIx (eVarB 4) (eVarB 5)) (rNil)))))) (sRet (eTup (aCons (eC (.str "swap")) (aCons (eVar 5) (aNil))))) (sNext)
def lb_l_rough_fault_2 : SS := sSeq (sPar 10 11 (eCallB cTuple (aCons (eSl dSl (eBin dIx (eVarB 4) (eVarB 5)) (oNo) (oSo (eC (.int 2)))) (aNil))) (eCallB cTuple (aCons (eSl dSl (eBin dIx (eVarB 4) (eVarB 5)) (oSo (eC (.int 2))) (oNo)) (aNil))))
    (sSeq (sIf (tOr (tOf (eBin dIn (eVarB 10) (eVarB 9))) (tOf (eBin dIn (eVarB 11) (eVarB 9)))) (sRet (eTup (aCons (eC (.str "twice")) (aCons (eVar 5) (aNil))))) (sNext))
    (sSet 9 (eBin dAdd (eVarB 9) (eLst (aCons (eVar 10) (aCons (eVar 11) (aNil)))))))
def b_l_rough_fault : SS := sSeq (sTgt (gT (([gN 1, gN 2, gN 3, gN 4] : List SG).foldr gsCons gsNil)) (eVar 0))
    (sSeq (sFor (iRng1 (aCons (eCallB cLen (aCons (eVarB 3) (aNil))) (aNil))) (gN 5) lb_l_rough_fault_0)
    (sSeq (sFor (iRng1 (aCons (eCallB cLen (aCons (eVarB 4) (aNil))) (aNil))) (gN 5) lb_l_rough_fault_1)
    (sSeq (sSet 9 (eLst (aNil)))
    (sSeq (sFor (iRng1 (aCons (eCallB cLen (aCons (eVarB 4) (aNil))) (aNil))) (gN 5) lb_l_rough_fault_2)
    (sRet (eC .non))))))
def m_l_rough_fault : MF := runB false 12 b_l_rough_fault
theorem hb_l_rough_fault (c : SX K mg) (f : Addr) (cdv : Value) (A : Around) (outer : List PySem.Env) (s : Shared) (H : Hp) (E : XK) (hr : Room 1 (A.deeper (envOfC "_law_rough_fault" (defScope s_l_rough_fault) s.heap.objs.size f cdv))) :
    EL (cxOf (L2.CX P w) P w K mg base N_l_rough_fault "_law_rough_fault" (defScope s_l_rough_fault) f cdv A outer s H E) (WX0 E) false (defBody s_l_rough_fault) (b_l_rough_fault) := by
  have hN := S_l_rough_fault.nd
  refine el_cons ?_ ?_
  · exact es_tgt (ev_var 0) (eg_tup [gN 1, gN 2, gN 3, gN 4] rfl (egs_cons (eg_n (is := [1, 2, 3, 4]) 1) (egs_cons (eg_n (is := [1, 2, 3, 4]) 2) (egs_cons (eg_n (is := [1, 2, 3, 4]) 3) (egs_cons (eg_n (is := [1, 2, 3, 4]) 4) (egs_nil))))))
  refine el_cons ?_ ?_
  · refine es_for (eiv_rng1 rfl (c.free 5) (ea_cons (ev_b (ev_callB call_len cd_len rfl (c.free 1) rfl (ea_cons (eb_var 3) (ea_nil)))) (ea_nil))) (eg_n (is := [5]) 5) ?_ (passes_of rfl)
    refine el_cons ?_ ?_
    · exact es_tgt (ev_ix ix_seq opd_ix (eb_var 3) (eb_var 5)) (eg_tup [gN 6, gN 7, gN 8] rfl (egs_cons (eg_n (is := [6, 7, 8]) 6) (egs_cons (eg_n (is := [6, 7, 8]) 7) (egs_cons (eg_n (is := [6, 7, 8]) 8) (egs_nil)))))
    refine el_one ?_
    refine es_if (PW.pt (ew_or (et_not (et_chain op_le op_lt blo_cmp opd_cmp opd_cmp (ev_b (ev_int)) (eb_var 6) (eb_var 1))) (ew_or (et_not (et_chain op_le op_lt blo_cmp opd_cmp opd_cmp (ev_b (ev_int)) (eb_var 7) (eb_var 2))) (ew_or1 (et_not (et_chain op_le op_lt blo_cmp opd_cmp opd_cmp (ev_b (ev_int)) (eb_var 8) (eb_var 2))))))) ?_ ?_
    · refine el_one ?_
      exact es_ret (ev_tup (eav_cons (ev_str) (eav_cons (ev_var 5) (eav_nil))))
    · exact el_nil
  refine el_cons ?_ ?_
  · refine es_for (eiv_rng1 rfl (c.free 5) (ea_cons (ev_b (ev_callB call_len cd_len rfl (c.free 1) rfl (ea_cons (eb_var 4) (ea_nil)))) (ea_nil))) (eg_n (is := [5]) 5) ?_ (passes_of rfl)
    refine el_one ?_
    refine es_if (et_not (et_val (ev_c (ok_l_is_entry c) hr (an_cons (ev_var 3) (an_cons (ev_ix ix_seq opd_ix (eb_var 4) (eb_var 5)) (an_nil)))))) ?_ ?_
    · refine el_one ?_
      exact es_ret (ev_tup (eav_cons (ev_str) (eav_cons (ev_var 5) (eav_nil))))
    · exact el_nil
  refine el_cons ?_ ?_
  · exact es_set 9 (ef_v (ef_lst (eav_nil)))
  refine el_cons ?_ ?_
  · refine es_for (eiv_rng1 rfl (c.free 5) (ea_cons (ev_b (ev_callB call_len cd_len rfl (c.free 1) rfl (ea_cons (eb_var 4) (ea_nil)))) (ea_nil))) (eg_n (is := [5]) 5) ?_ (passes_of rfl)
    refine el_cons ?_ ?_
    · exact es_par 10 11 (ev_callT call_tuple_of cd_tuple rfl (c.free 3) rfl (ea_cons (ev_b (ev_sl (ev_b (ev_ix ix_seq opd_ix (eb_var 4) (eb_var 5))) (eo_no) (eo_so (ev_int)))) (ea_nil))) (ev_callT call_tuple_of cd_tuple rfl (c.free 3) rfl (ea_cons (ev_b (ev_sl (ev_b (ev_ix ix_seq opd_ix (eb_var 4) (eb_var 5))) (eo_so (ev_int)) (eo_no))) (ea_nil)))
    refine el_cons ?_ ?_
    · refine es_if (PW.pt (ew_or (et_cmp (op_inA (u65 hr)) opd_in (eb_var 10) (eb_var 9) rfl) (ew_or1 (et_cmp (op_inA (u65 hr)) opd_in (eb_var 11) (eb_var 9) rfl)))) ?_ ?_
      · refine el_one ?_
        exact es_ret (ev_tup (eav_cons (ev_str) (eav_cons (ev_var 5) (eav_nil))))
      · exact el_nil
    refine el_one ?_
    exact es_set 9 (ev_op op_addA opd_add (eb_var 9) (ev_b (ef_v (ef_lst (eav_cons (ev_var 10) (eav_cons (ev_var 11) (eav_nil)))))))
  refine el_one ?_
  exact es_ret (ev_non)
theorem ok_l_rough_fault (c : SX K mg) : Df P w K mg base 2 "_law_rough_fault" false ["_law_sketch"] [] m_l_rough_fault := by
  obtain ⟨fd, F⟩ := c.d.def_ 13
  exact df_mk F (defD_ok F S_l_rough_fault (hb_l_rough_fault c _)) (c.glo 56) fun _ _ _ _ _ _ us hl => match us, hl with | [_], _ => rfl
/- check_sizes: slots 0 colors 1 nodes 2 edges -/
abbrev N_check_sizes : List Str := ["colors", "nodes", "edges"]
theorem S_check_sizes : FnScope N_check_sizes ["colors", "nodes", "edges"] (defScope s_check_sizes) := ⟨rfl, rfl, rfl, by decide +kernel, rfl, by decide +kernel, by decide +kernel⟩
def b_check_sizes : SS := sSeq (sIf (tNot (tOf (eChain dLe dLe (eC (.int 1)) (eVarB 0) (eC (.int 3))))) (sRaise "BadNumber" 1 ["number", "tag"] (fun ds => [ds.getD 0 .non, .str "BadNumber"]) (aCons (eVar 0) (aNil))) (sNext))
    (sSeq (sIf (tOf (eBin dLt (eVarB 1) (eC (.int 1)))) (sRaise "BadNumber" 1 ["number", "tag"] (fun ds => [ds.getD 0 .non, .str "BadNumber"]) (aCons (eVar 1) (aNil))) (sNext))
    (sSeq (sIf (tOf (eBin dGt (eVarB 1) (eC (.int 30)))) (sRaise "Full" 1 ["bound", "tag"] (fun ds => [ds.getD 0 .non, .str "Full"]) (aCons (eC (.int 30)) (aNil))) (sNext))
    (sIf (tOf (eBin dGt (eCallB cLen (aCons (eVarB 2) (aNil))) (eC (.int 120)))) (sRaise "Full" 1 ["bound", "tag"] (fun ds => [ds.getD 0 .non, .str "Full"]) (aCons (eC (.int 120)) (aNil))) (sNext))))
def m_check_sizes : MF := runB false 3 b_check_sizes
theorem hb_check_sizes (c : SX K mg) (f : Addr) (cdv : Value) (A : Around) (outer : List PySem.Env) (s : Shared) (H : Hp) (E : XK) (hr : Room 2 (A.deeper (envOfC "check_sizes" (defScope s_check_sizes) s.heap.objs.size f cdv))) :
    EL (cxOf (L2.CX P w) P w K mg base N_check_sizes "check_sizes" (defScope s_check_sizes) f cdv A outer s H E) (WX0 E) false (defBody s_check_sizes) (b_check_sizes) := by
  have hN := S_check_sizes.nd
  obtain ⟨t_COLORS, h_COLORS⟩ := c.int 57 (x := "COLORS") (j := 3)
  obtain ⟨t_EDGES, h_EDGES⟩ := c.int 58 (x := "EDGES") (j := 120)
  obtain ⟨t_NODES, h_NODES⟩ := c.int 59 (x := "NODES") (j := 30)
  refine el_cons ?_ ?_
  · refine es_if (et_not (et_chain op_le op_le blo_cmp opd_cmp opd_cmp (ev_b (ev_int)) (eb_var 0) (ev_b ((ev_gint rfl h_COLORS))))) ?_ ?_
    · refine el_one ?_
      exact es_rz (rz_BadNumber c) hr (eav_cons (ev_var 0) (eav_nil))
    · exact el_nil
  refine el_cons ?_ ?_
  · refine es_if (et_cmp op_lt opd_cmp (eb_var 1) (ev_b (ev_int)) rfl) ?_ ?_
    · refine el_one ?_
      exact es_rz (rz_BadNumber c) hr (eav_cons (ev_var 1) (eav_nil))
    · exact el_nil
  refine el_cons ?_ ?_
  · refine es_if (et_cmp op_gtV opd_cmp (eb_var 1) (ev_b ((ev_gint rfl h_NODES))) rfl) ?_ ?_
    · refine el_one ?_
      exact es_rz (rz_Full c) hr (eav_cons ((ev_gint rfl h_NODES)) (eav_nil))
    · exact el_nil
  refine el_one ?_
  refine es_if (et_cmp op_gtV opd_cmp (ev_b (ev_callB call_len cd_len rfl (c.free 1) rfl (ea_cons (eb_var 2) (ea_nil)))) (ev_b ((ev_gint rfl h_EDGES))) rfl) ?_ ?_
  · refine el_one ?_
    exact es_rz (rz_Full c) hr (eav_cons ((ev_gint rfl h_EDGES)) (eav_nil))
  · exact el_nil
theorem ok_check_sizes (c : SX K mg) : Df P w K mg base 3 "check_sizes" false ["colors", "nodes", "edges"] [] m_check_sizes := by
  obtain ⟨fd, F⟩ := c.d.def_ 14
  exact df_mk F (defD_ok F S_check_sizes (hb_check_sizes c _)) (c.glo 60) fun _ _ _ _ _ _ us hl => match us, hl with | [_, _, _], _ => rfl
/- net_fault: slots 0 colors 1 nodes 2 edges 3 swaps 4 fault 5 table 6 one 7 other -/
abbrev N_net_fault : List Str := ["colors", "nodes", "edges", "swaps", "fault", "table", "one", "other"]
theorem S_net_fault : FnScope N_net_fault ["colors", "nodes", "edges", "swaps"] (defScope s_net_fault) := ⟨rfl, rfl, rfl, by decide +kernel, rfl, by decide +kernel, by decide +kernel⟩
def lb_net_fault_0 : SS := sIf (tOf (eBin dDnotIn (eTup (aCons (eVar 6) (aCons (eVar 7) (aNil)))) (eVarB 5))) (sRet (eTup (aCons (eC (.str "lacking")) (aCons (eVar 6) (aCons (eVar 7) (aNil)))))) (sNext)
def lg_net_fault_0 : SG := gT (([gN 6, gN 7] : List SG).foldr gsCons gsNil)
def b_net_fault : SS := sSeq (sDrop (eCall m_check_sizes (rCons (eVar 0) (rCons (eVar 1) (rCons (eVar 2) (rNil))))))
    (sSeq (sSet 4 (eCall m_edge_fault (rCons (eVar 0) (rCons (eVar 1) (rCons (eVar 2) (rNil))))))
    (sSeq (sIf (tOf (eBin dIsN (eVarB 4) (eC .non))) (sSet 4 (eCall m_swap_fault (rCons (eVar 2) (rCons (eVar 3) (rNil))))) (sNext))
    (sSeq (sIf (tOf (eBin dNotN (eVarB 4) (eC .non))) (sRet (eVar 4)) (sNext))
    (sSeq (sSet 5 (eCall m_swap_table (rCons (eVar 3) (rNil))))
    (sSeq (sFor (iSqS (eCall m_mixed_pairs (rCons (eVar 2) (rNil)))) (lg_net_fault_0) lb_net_fault_0)
    (sRet (eCall m_cube_fault (rCons (eVar 2) (rCons (eVar 5) (rNil))))))))))
def m_net_fault : MF := runB false 8 b_net_fault
theorem hb_net_fault (c : SX K mg) (f : Addr) (cdv : Value) (A : Around) (outer : List PySem.Env) (s : Shared) (H : Hp) (E : XK) (hr : Room 3 (A.deeper (envOfC "net_fault" (defScope s_net_fault) s.heap.objs.size f cdv))) :
    EL (cxOf (L2.CX P w) P w K mg base N_net_fault "net_fault" (defScope s_net_fault) f cdv A outer s H E) (WX0 E) false (defBody s_net_fault) (b_net_fault) := by
  have hN := S_net_fault.nd
  refine el_cons ?_ ?_
  · exact es_drop (ev_c (ok_check_sizes c) hr (an_cons (ev_var 0) (an_cons (ev_var 1) (an_cons (ev_var 2) (an_nil)))))
  refine el_cons ?_ ?_
  · exact es_set 4 (ev_c (ok_edge_fault c) hr (an_cons (ev_var 0) (an_cons (ev_var 1) (an_cons (ev_var 2) (an_nil)))))
  refine el_cons ?_ ?_
  · refine es_if (et_cmp op_isN opd_isN (eb_var 4) (ev_b (ev_non)) rfl) ?_ ?_
    · refine el_one ?_
      exact es_set 4 (ev_c (ok_swap_fault c) hr (an_cons (ev_var 2) (an_cons (ev_var 3) (an_nil))))
    · exact el_nil
  refine el_cons ?_ ?_
  · refine es_if (et_cmp op_notN opd_notN (eb_var 4) (ev_b (ev_non)) rfl) ?_ ?_
    · refine el_one ?_
      exact es_ret (ev_var 4)
    · exact el_nil
  refine el_cons ?_ ?_
  · exact es_set 5 (ef_v (ef_c (ok_swap_table c) hr (an_cons (ev_var 3) (an_nil))))
  refine el_cons ?_ ?_
  · refine es_for (eiv_sqS (ef_v (ef_c (ok_mixed_pairs c) hr (an_cons (ev_var 2) (an_nil))))) (eg_tup [gN 6, gN 7] rfl (egs_cons (eg_n (is := [6, 7]) 6) (egs_cons (eg_n (is := [6, 7]) 7) (egs_nil)))) ?_ (passes_of rfl)
    refine el_one ?_
    refine es_if (et_dnotin (u1 hr) (ev_b (ev_tup (eav_cons (ev_var 6) (eav_cons (ev_var 7) (eav_nil))))) (eb_var 5)) ?_ ?_
    · refine el_one ?_
      exact es_ret (ev_tup (eav_cons (ev_str) (eav_cons (ev_var 6) (eav_cons (ev_var 7) (eav_nil)))))
    · exact el_nil
  refine el_one ?_
  exact es_ret (ev_c (ok_cube_fault c) hr (an_cons (ev_var 2) (an_cons (ev_var 5) (an_nil))))
theorem ok_net_fault (c : SX K mg) : Df P w K mg base 4 "net_fault" false ["colors", "nodes", "edges", "swaps"] [] m_net_fault := by
  obtain ⟨fd, F⟩ := c.d.def_ 15
  exact df_mk F (defD_ok F S_net_fault (hb_net_fault c _)) (c.glo 61) fun _ _ _ _ _ _ us hl => match us, hl with | [_, _, _, _], _ => rfl
/- complete_swaps: slots 0 nodes 1 edges 2 swaps 3 fault 4 rising 5 falling 6 found 7 ends 8 left 9 right 10 entry -/
abbrev N_complete_swaps : List Str := ["nodes", "edges", "swaps", "fault", "rising", "falling", "found", "ends", "left", "right", "entry"]
theorem S_complete_swaps : FnScope N_complete_swaps ["nodes", "edges", "swaps"] (defScope s_complete_swaps) := ⟨rfl, rfl, rfl, by decide +kernel, rfl, by decide +kernel, by decide +kernel⟩
def lb_complete_swaps_0 : SS := sBad
def b_complete_swaps : SS := sSeq (sDrop (eCall m_check_sizes (rCons (eC (.int 2)) (rCons (eVar 0) (rCons (eVar 1) (rNil))))))
    (sSeq (sSet 3 (eCall m_edge_fault (rCons (eC (.int 2)) (rCons (eVar 0) (rCons (eVar 1) (rNil))))))
    (sSeq (sIf (tOf (eBin dIsN (eVarB 3) (eC .non))) (sSet 3 (eCall m_swap_fault (rCons (eVar 1) (rCons (eVar 2) (rNil))))) (sNext))
    (sSeq (sIf (tOf (eBin dNotN (eVarB 3) (eC .non))) (sRaise "BadNet" 1 ["fault", "tag"] (fun ds => [ds.getD 0 .non, .str "BadNet"]) (aCons (eVar 3) (aNil))) (sNext))
    (sSeq (sTgt (gT (([gN 4, gN 5] : List SG).foldr gsCons gsNil)) (eCall m_sides_left (rCons (eVar 1) (rCons (eVar 2) (rNil)))))
    (sSeq (sSetF 6 (eLc (iSqS (eVar 2)) (gN 10) [10] (tYes) (eCallB cTuple (aCons (eVarB 10) (aNil)))))
    (sSeq (sFor (iSqS (eCallB cSort (aCons (eBin dAdd (eCallB cListD0 (aCons (eVarB 4) (aNil))) (eCallB cListD0 (aCons (eVarB 5) (aNil)))) (aNil)))) (gN 7) lb_complete_swaps_0)
    (sSeq (sForD0 4)
    (sRet (eCallB cSort (aCons (eVarB 6) (aNil)))))))))))
def m_complete_swaps : MF := runB true 11 b_complete_swaps
theorem hb_complete_swaps (c : SX K mg) (f : Addr) (cdv : Value) (A : Around) (outer : List PySem.Env) (s : Shared) (H : Hp) (E : XK) (hr : Room 3 (A.deeper (envOfC "complete_swaps" (defScope s_complete_swaps) s.heap.objs.size f cdv))) :
    EL (cxOf (L2.CX P w) P w K mg base N_complete_swaps "complete_swaps" (defScope s_complete_swaps) f cdv A outer s H E) (WX0 E) true (defBody s_complete_swaps) (b_complete_swaps) := by
  have hN := S_complete_swaps.nd
  refine el_cons ?_ ?_
  · exact es_drop (ev_c (ok_check_sizes c) hr (an_cons (ev_int) (an_cons (ev_var 0) (an_cons (ev_var 1) (an_nil)))))
  refine el_cons ?_ ?_
  · exact es_set 3 (ev_c (ok_edge_fault c) hr (an_cons (ev_int) (an_cons (ev_var 0) (an_cons (ev_var 1) (an_nil)))))
  refine el_cons ?_ ?_
  · refine es_if (et_cmp op_isN opd_isN (eb_var 3) (ev_b (ev_non)) rfl) ?_ ?_
    · refine el_one ?_
      exact es_set 3 (ev_c (ok_swap_fault c) hr (an_cons (ev_var 1) (an_cons (ev_var 2) (an_nil))))
    · exact el_nil
  refine el_cons ?_ ?_
  · refine es_if (et_cmp op_notN opd_notN (eb_var 3) (ev_b (ev_non)) rfl) ?_ ?_
    · refine el_one ?_
      exact es_rz (rz_BadNet c) hr (eav_cons (ev_var 3) (eav_nil))
    · exact el_nil
  refine el_cons ?_ ?_
  · exact es_tgt (ev_c (ok_sides_left c) hr (an_cons (ev_var 1) (an_cons (ev_var 2) (an_nil)))) (eg_tup [gN 4, gN 5] rfl (egs_cons (eg_n (is := [4, 5]) 4) (egs_cons (eg_n (is := [4, 5]) 5) (egs_nil))))
  refine el_cons ?_ ?_
  · exact es_setLc 6 [("entry", 10)] (eiv_b (eiv_sqS (ev_var 2))) (blkOk_by rfl) (fun _ _ _ _ _ => eg_n (is := [10]) 10) (fun _ _ _ _ _ => ets_nil) (fun _ _ _ _ _ => ev_callT call_tuple_of cd_tuple rfl (c.free 3) rfl (ea_cons (eb_var 10) (ea_nil)))
  refine el_cons ?_ ?_
  · refine es_for (eiv_sqS (ef_v (ef_callB cr_sortedI cf_sort rfl (c.free 6) rfl (ea_cons (ev_b (ev_op op_addA opd_add (ev_b (ef_v (ef_callT (call_listDD rfl) cf_listD0 rfl (c.free 4) rfl (ea_cons (eb_var 4) (ea_nil))))) (ev_b (ef_v (ef_callT (call_listDD rfl) cf_listD0 rfl (c.free 4) rfl (ea_cons (eb_var 5) (ea_nil))))))) (ea_nil))))) (eg_n (is := [7]) 7) ?_ (passes_of rfl)
    refine el_one ?_
    exact es_bad
  refine el_cons ?_ ?_
  · exact es_forD0 4 (passes_of rfl)
  refine el_one ?_
  exact es_retF (ef_callB cr_sortedI cf_sort rfl (c.free 6) rfl (ea_cons (eb_var 6) (ea_nil)))
def d_complete_swaps : List D := [.ctup []]
theorem ok_complete_swaps (c : SX K mg) : Df P w K mg base 4 "complete_swaps" true ["nodes", "edges", "swaps"] d_complete_swaps m_complete_swaps := by
  obtain ⟨fd, F⟩ := c.d.def_ 16
  obtain ⟨ds, v, bn⟩ := FunD.binds0 (ps := ["nodes", "edges", "swaps"]) F 2 (by simp [dd_complete_swaps, DefD.kws]) rfl (fun D doc pm an cdv ct us ks hl hk => match us, hl, ks, hk with | [_, _], _, [_], _ => ⟨_, _, _, _, _, _, rfl, rfl, rfl⟩)
  exact ⟨⟨fd, ds, _, defD_ok F S_complete_swaps (hb_complete_swaps c _), bn, v, rep_tup0 (c.tst 0)⟩, (c.glo 62), F.kp⟩
/- Net.__init__: slots 0 self 1 colors 2 nodes 3 edges 4 swaps 5 fault 6 edge 7 entry -/
abbrev N_Net_init : List Str := ["self", "colors", "nodes", "edges", "swaps", "fault", "edge", "entry"]
theorem S_Net_init : FnScope N_Net_init ["self", "colors", "nodes", "edges", "swaps"] (defScope s_Net_init) := ⟨rfl, rfl, rfl, by decide +kernel, rfl, by decide +kernel, by decide +kernel⟩
def b_Net_init : SS := sSeq (sSet 5 (eCall m_net_fault (rCons (eVar 1) (rCons (eVar 2) (rCons (eVar 3) (rCons (eVar 4) (rNil)))))))
    (sSeq (sIf (tOf (eBin dNotN (eVarB 5) (eC .non))) (sRaise "BadNet" 1 ["fault", "tag"] (fun ds => [ds.getD 0 .non, .str "BadNet"]) (aCons (eVar 5) (aNil))) (sNext))
    (sSeq (sFldS 0 "Net" "hues" (eVar 1))
    (sSeq (sFldS 0 "Net" "knots" (eVar 2))
    (sSeq (sFldS 0 "Net" "lines" (eLc (iSqS (eVar 3)) (gN 6) [6] (tYes) (eCallB cTuple (aCons (eVarB 6) (aNil)))))
    (sSeq (sFldS 0 "Net" "entries" (eCallB cSort (aCons (eLc (iSqS (eVar 4)) (gN 7) [7] (tYes) (eCallB cTuple (aCons (eVarB 7) (aNil)))) (aNil))))
    (sFldS 0 "Net" "table" (eCall m_swap_table (rCons (eVar 4) (rNil)))))))))
def m_Net_init : MF := runB false 8 b_Net_init
theorem hb_Net_init (c : SX K mg) (f : Addr) (cdv : Value) (A : Around) (outer : List PySem.Env) (s : Shared) (H : Hp) (E : XK) (hr : Room 4 (A.deeper (envOfC "Net.__init__" (defScope s_Net_init) s.heap.objs.size f cdv))) :
    EL (cxOf (L2.CX P w) P w K mg base N_Net_init "Net.__init__" (defScope s_Net_init) f cdv A outer s H E) (WX0 E) false (defBody s_Net_init) (b_Net_init) := by
  have hN := S_Net_init.nd
  have z_Net := z_Net c
  refine el_cons ?_ ?_
  · exact es_set 5 (ev_c (ok_net_fault c) hr (an_cons (ev_var 1) (an_cons (ev_var 2) (an_cons (ev_var 3) (an_cons (ev_var 4) (an_nil))))))
  refine el_cons ?_ ?_
  · refine es_if (et_cmp op_notN opd_notN (eb_var 5) (ev_b (ev_non)) rfl) ?_ ?_
    · refine el_one ?_
      exact es_rz (rz_BadNet c) hr (eav_cons (ev_var 5) (eav_nil))
    · exact el_nil
  refine el_cons ?_ ?_
  · exact es_fld 0 "Net" (z_Net.fld "hues") (ev_var 1)
  refine el_cons ?_ ?_
  · exact es_fld 0 "Net" (z_Net.fld "knots") (ev_var 2)
  refine el_cons ?_ ?_
  · exact es_fld 0 "Net" (z_Net.fld "lines") (ef_v (ef_lc [("edge", 6)] (eiv_b (eiv_sqS (ev_var 3))) (blkOk_by rfl) (fun _ _ _ _ _ => eg_n (is := [6]) 6) (fun _ _ _ _ _ => ets_nil) (fun _ _ _ _ _ => ev_callT call_tuple_of cd_tuple rfl (c.free 3) rfl (ea_cons (eb_var 6) (ea_nil)))))
  refine el_cons ?_ ?_
  · exact es_fld 0 "Net" (z_Net.fld "entries") (ef_v (ef_callB cr_sortedI cf_sort rfl (c.free 6) rfl (ea_cons (ev_b (ef_v (ef_lc [("entry", 7)] (eiv_b (eiv_sqS (ev_var 4))) (blkOk_by rfl) (fun _ _ _ _ _ => eg_n (is := [7]) 7) (fun _ _ _ _ _ => ets_nil) (fun _ _ _ _ _ => ev_callT call_tuple_of cd_tuple rfl (c.free 3) rfl (ea_cons (eb_var 7) (ea_nil)))))) (ea_nil))))
  refine el_one ?_
  exact es_fld 0 "Net" (z_Net.fld "table") (ef_v (ef_c (ok_swap_table c) hr (an_cons (ev_var 4) (an_nil))))
def d_Net_init : List D := [.ctup []]
theorem ok_Net_init (c : SX K mg) : Mz P w K mg base 5 "Net" ["self", "colors", "nodes", "edges", "swaps"] d_Net_init m_Net_init := by
  obtain ⟨fd, F⟩ := c.d.def_ 17
  obtain ⟨ds, v, bn⟩ := FunD.binds0 (ps := ["self", "colors", "nodes", "edges", "swaps"]) F 4 (by simp [dd_Net_init, DefD.kws]) rfl (fun D doc pm an cdv ct us ks hl hk => match us, hl, ks, hk with | [_, _, _, _], _, [_], _ => ⟨_, _, _, _, _, _, rfl, rfl, rfl⟩)
  exact ⟨⟨_, fd, ds, _, He.mkr_ok (c.fact 63), defD_ok F S_Net_init (hb_Net_init c _), bn, v, rep_tup0 (c.tst 1)⟩, (c.glo 18)⟩
/- _law_alike: slots 0 _law_found 1 _law_due 2 _law_k -/
abbrev N_l_alike : List Str := ["_law_found", "_law_due", "_law_k"]
theorem S_l_alike : FnScope N_l_alike ["_law_found", "_law_due"] (defScope s_l_alike) := ⟨rfl, rfl, rfl, by decide +kernel, rfl, by decide +kernel, by decide +kernel⟩
def b_l_alike (G : MF) : SS := sSeq (sIf (tOr (tOf (eBin dIsN (eVarB 1) (eC .non))) (tOf (eBin dIsN (eVarB 0) (eC .non)))) (sRet (eAnd (eBin dIsN (eVarB 0) (eC .non)) (eBin dIsN (eVarB 1) (eC .non)))) (sNext))
    (sSeq (sIf (tOr (tOf (eUn (isiD "list") (eVarB 1))) (tOf (eUn (isiD "tuple") (eVarB 1)))) (sSeq (sIf (tOr (tOf (eBin dNe (eUn (isiD "list") (eVarB 1)) (eUn (isiD "list") (eVarB 0)))) (tOf (eBin dNe (eUn (isiD "tuple") (eVarB 1)) (eUn (isiD "tuple") (eVarB 0))))) (sRet (eC (.bl false))) (sNext))
    (sSeq (sIf (tOf (eBin dNe (eCallB cLen (aCons (eVarB 0) (aNil))) (eCallB cLen (aCons (eVarB 1) (aNil))))) (sRet (eC (.bl false))) (sNext))
    (sRet (eCallB cAll (aCons (eLc (iRng1 (aCons (eCallB cLen (aCons (eVarB 1) (aNil))) (aNil))) (gN 2) [2] (tYes) (eCall G (rCons (eBin dIx (eVarB 0) (eVarB 2)) (rCons (eBin dIx (eVarB 1) (eVarB 2)) (rNil))))) (aNil)))))) (sNext))
    (sSeq (sIf (tOr (tOf (eBin dNe (eUn (isiD "bool") (eVarB 1)) (eUn (isiD "bool") (eVarB 0)))) (tOf (eBin dNe (eUn (isiD "int") (eVarB 1)) (eUn (isiD "int") (eVarB 0))))) (sRet (eC (.bl false))) (sNext))
    (sRet (eAnd (eBin dEq (eUn (isiD "str") (eVarB 1)) (eUn (isiD "str") (eVarB 0))) (eBin dEq (eVarB 0) (eVarB 1))))))
def m_l_alike : Nat → MF
  | 0 => fun _ _ => .bad
  | n + 1 => runB false 3 (b_l_alike (m_l_alike n))
theorem hb_l_alike (c : SX K mg) {j : Nat} {mf : MF} (hj : 1 ≤ j) (G : Df P w K mg base j "_law_alike" false ["_law_found", "_law_due"] [] mf) (f : Addr) (cdv : Value) (A : Around) (outer : List PySem.Env) (s : Shared) (H : Hp) (E : XK) (hr : Room j (A.deeper (envOfC "_law_alike" (defScope s_l_alike) s.heap.objs.size f cdv))) :
    EL (cxOf (L2.CX P w) P w K mg base N_l_alike "_law_alike" (defScope s_l_alike) f cdv A outer s H E) (WX0 E) false (defBody s_l_alike) (b_l_alike mf) := by
  have hN := S_l_alike.nd
  refine el_cons ?_ ?_
  · refine es_if (PW.pt (ew_or (et_cmp op_isN opd_isN (eb_var 1) (ev_b (ev_non)) rfl) (ew_or1 (et_cmp op_isN opd_isN (eb_var 0) (ev_b (ev_non)) rfl)))) ?_ ?_
    · refine el_one ?_
      exact es_ret (ev_and (ev_cmp op_isN opd_isN (eb_var 0) (ev_b (ev_non)) rfl) (ev_one (ev_cmp op_isN opd_isN (eb_var 1) (ev_b (ev_non)) rfl)))
    · exact el_nil
  refine el_cons ?_ ?_
  · refine es_if (PW.pt (ew_or (et_val (ev_isi "list" rfl (c.free 7) rfl (c.free 4) rfl (eb_var 1))) (ew_or1 (et_val (ev_isi "tuple" rfl (c.free 7) rfl (c.free 3) rfl (eb_var 1)))))) ?_ ?_
    · refine el_cons ?_ ?_
      · refine es_if (PW.pt (ew_or (et_cmp (op_neD hr.units) opd_ne (ev_b (ev_isi "list" rfl (c.free 7) rfl (c.free 4) rfl (eb_var 1))) (ev_b (ev_isi "list" rfl (c.free 7) rfl (c.free 4) rfl (eb_var 0))) rfl) (ew_or1 (et_cmp (op_neD hr.units) opd_ne (ev_b (ev_isi "tuple" rfl (c.free 7) rfl (c.free 3) rfl (eb_var 1))) (ev_b (ev_isi "tuple" rfl (c.free 7) rfl (c.free 3) rfl (eb_var 0))) rfl)))) ?_ ?_
        · refine el_one ?_
          exact es_ret (ev_bl)
        · exact el_nil
      refine el_cons ?_ ?_
      · refine es_if (et_cmp (op_neD hr.units) opd_ne (ev_b (ev_callB call_len cd_len rfl (c.free 1) rfl (ea_cons (eb_var 0) (ea_nil)))) (ev_b (ev_callB call_len cd_len rfl (c.free 1) rfl (ea_cons (eb_var 1) (ea_nil)))) rfl) ?_ ?_
        · refine el_one ?_
          exact es_ret (ev_bl)
        · exact el_nil
      refine el_one ?_
      exact es_ret (ev_callB (cr_all rfl) cd_all rfl (c.free 2) rfl (ea_cons (ev_b (ef_v (ef_lc [("_law_k", 2)] (eiv_b (eiv_rng1 rfl (c.free 5) (ea_cons (ev_b (ev_callB call_len cd_len rfl (c.free 1) rfl (ea_cons (eb_var 1) (ea_nil)))) (ea_nil)))) (blkOk_by rfl) (fun _ _ _ _ _ => eg_n (is := [2]) 2) (fun _ _ _ _ _ => ets_nil) (fun _ _ _ _ _ => ev_c G hr (an_cons (ev_ix ix_seq opd_ix (eb_var 0) (eb_var 2)) (an_cons (ev_ix ix_seq opd_ix (eb_var 1) (eb_var 2)) (an_nil))) (tk := L2.takes0) (hk := Nat.le_refl _))))) (ea_nil)))
    · exact el_nil
  refine el_cons ?_ ?_
  · refine es_if (PW.pt (ew_or (et_cmp (op_neD hr.units) opd_ne (ev_b (ev_isi "bool" rfl (c.free 7) rfl (c.free 8) rfl (eb_var 1))) (ev_b (ev_isi "bool" rfl (c.free 7) rfl (c.free 8) rfl (eb_var 0))) rfl) (ew_or1 (et_cmp (op_neD hr.units) opd_ne (ev_b (ev_isi "int" rfl (c.free 7) rfl (c.free 9) rfl (eb_var 1))) (ev_b (ev_isi "int" rfl (c.free 7) rfl (c.free 9) rfl (eb_var 0))) rfl)))) ?_ ?_
    · refine el_one ?_
      exact es_ret (ev_bl)
    · exact el_nil
  refine el_one ?_
  exact es_ret (ev_and (ev_cmp (op_eqD hr.units) opd_eq (ev_b (ev_isi "str" rfl (c.free 7) rfl (c.free 10) rfl (eb_var 1))) (ev_b (ev_isi "str" rfl (c.free 7) rfl (c.free 10) rfl (eb_var 0))) rfl) (ev_one (ev_cmp (op_eqD hr.units) opd_eq (eb_var 0) (eb_var 1) rfl)))
theorem ok_l_alike : ∀ (n : Nat) (c : SX K mg), Df P w K mg base (n + 1) "_law_alike" false ["_law_found", "_law_due"] [] (m_l_alike n)
  | 0, c => by
    obtain ⟨fd, F⟩ := c.d.def_ 18
    exact df_mk F fn_bad (c.glo 64) fun _ _ _ _ _ _ us hl => match us, hl with | [_, _], _ => rfl
  | n + 1, c => by
    have G := ok_l_alike n c
    obtain ⟨fd, F⟩ := c.d.def_ 18
    have e := df_mk F (defD_ok F S_l_alike (hb_l_alike c (j := n + 1) (by omega) G _)) (c.glo 64) fun _ _ _ _ _ _ us hl => match us, hl with | [_, _], _ => rfl
    rw [show n + 1 + 1 = n + 1 + 1 by omega]
    exact e
/- _law_sized: slots 0 _law_asks 1 _law_sketch 2 _law_fault 3 _law_good -/
abbrev N_l_sized : List Str := ["_law_asks", "_law_sketch", "_law_fault", "_law_good"]
theorem S_l_sized : FnScope N_l_sized ["_law_asks", "_law_sketch"] (defScope s_l_sized) := ⟨rfl, rfl, rfl, by decide +kernel, rfl, by decide +kernel, by decide +kernel⟩
def b_l_sized : SS := sSeq (sSet 2 (eCall m_l_rough_fault (rCons (eTup (aCons (eBin dIx (eVarB 1) (eC (.int 0))) (aCons (eBin dIx (eVarB 1) (eC (.int 1))) (aCons (eBin dIx (eVarB 1) (eC (.int 2))) (aCons (eLst (aCons (eTup (aCons (eC (.int 9)) (aNil))) (aNil))) (aNil)))))) (rNil))))
    (sSeq (sIf (tNot (tOf (eCall (m_l_alike 8) (rCons (eBin dIx (eVarB 0) (eC (.int 0))) (rCons (eTup (aCons (eC (.str "told")) (aCons (eVar 2) (aNil)))) (rNil)))))) (sRet (eC (.bl false))) (sNext))
    (sSeq (sSet 3 (eCall m_l_rough_fault (rCons (eVar 1) (rNil))))
    (sSeq (sIf (tOf (eBin dNotN (eVarB 3) (eC .non))) (sRet (eCall (m_l_alike 8) (rCons (eBin dIx (eVarB 0) (eC (.int 1))) (rCons (eTup (aCons (eC (.str "no")) (aCons (eC (.str "BadNet")) (aCons (eVar 3) (aNil))))) (rNil))))) (sNext))
    (sRet (eAnd (eBin dEq (eBin dIx (eBin dIx (eVarB 0) (eC (.int 1))) (eC (.int 0))) (eC (.str "told"))) (eBin dEq (eLenO "Net" m_Net_len (eBin dIx (eBin dIx (eVarB 0) (eC (.int 1))) (eC (.int 1)))) (eCallB cLen (aCons (eBin dIx (eVarB 1) (eC (.int 2))) (aNil)))))))))
def m_l_sized : MF := runB false 4 b_l_sized
theorem hb_l_sized (c : SX K mg) (f : Addr) (cdv : Value) (A : Around) (outer : List PySem.Env) (s : Shared) (H : Hp) (E : XK) (hr : Room 9 (A.deeper (envOfC "_law_sized" (defScope s_l_sized) s.heap.objs.size f cdv))) :
    EL (cxOf (L2.CX P w) P w K mg base N_l_sized "_law_sized" (defScope s_l_sized) f cdv A outer s H E) (WX0 E) false (defBody s_l_sized) (b_l_sized) := by
  have hN := S_l_sized.nd
  refine el_cons ?_ ?_
  · exact es_set 2 (ev_c (ok_l_rough_fault c) hr (an_cons (ev_tup (eav_cons (ev_ix ix_seq opd_ix (eb_var 1) (ev_b (ev_int))) (eav_cons (ev_ix ix_seq opd_ix (eb_var 1) (ev_b (ev_int))) (eav_cons (ev_ix ix_seq opd_ix (eb_var 1) (ev_b (ev_int))) (eav_cons (ef_v (ef_lst (eav_cons (ev_tup (eav_cons (ev_int) (eav_nil))) (eav_nil)))) (eav_nil)))))) (an_nil)))
  refine el_cons ?_ ?_
  · refine es_if (et_not (et_val (ev_c (ok_l_alike 8 c) hr (an_cons (ev_ix ix_seq opd_ix (eb_var 0) (ev_b (ev_int))) (an_cons (ev_tup (eav_cons (ev_str) (eav_cons (ev_var 2) (eav_nil)))) (an_nil)))))) ?_ ?_
    · refine el_one ?_
      exact es_ret (ev_bl)
    · exact el_nil
  refine el_cons ?_ ?_
  · exact es_set 3 (ev_c (ok_l_rough_fault c) hr (an_cons (ev_var 1) (an_nil)))
  refine el_cons ?_ ?_
  · refine es_if (et_cmp op_notN opd_notN (eb_var 3) (ev_b (ev_non)) rfl) ?_ ?_
    · refine el_one ?_
      exact es_ret (ev_c (ok_l_alike 8 c) hr (an_cons (ev_ix ix_seq opd_ix (eb_var 0) (ev_b (ev_int))) (an_cons (ev_tup (eav_cons (ev_str) (eav_cons (ev_str) (eav_cons (ev_var 3) (eav_nil))))) (an_nil))))
    · exact el_nil
  refine el_one ?_
  exact es_ret (ev_and (ev_cmp (op_eqD hr.units) opd_eq (ev_b (ev_ix ix_seq opd_ix (ev_b (ev_ix ix_seq opd_ix (eb_var 0) (ev_b (ev_int)))) (ev_b (ev_int)))) (ev_b (ev_str)) rfl) (ev_one (ev_cmp (op_eqD hr.units) opd_eq (ev_b (ev_lenM "Net" (ok_Net_len c) hr (ev_ix ix_seq opd_ix (ev_b (ev_ix ix_seq opd_ix (eb_var 0) (ev_b (ev_int)))) (ev_b (ev_int))) (c.free 1))) (ev_b (ev_callB call_len cd_len rfl (c.free 1) rfl (ea_cons (ev_b (ev_ix ix_seq opd_ix (eb_var 1) (ev_b (ev_int)))) (ea_nil)))) rfl)))
theorem ok_l_sized (c : SX K mg) : Df P w K mg base 10 "_law_sized" false ["_law_asks", "_law_sketch"] [] m_l_sized := by
  obtain ⟨fd, F⟩ := c.d.def_ 19
  exact df_mk F (defD_ok F S_l_sized (hb_l_sized c _)) (c.glo 65) fun _ _ _ _ _ _ us hl => match us, hl with | [_, _], _ => rfl
/- law: slots 0 _law_script 1 _law_bag_here 2 _law_turn 3 _law_far 4 _law_hues 5 _law_knots 6 _law_wide 7 _law_many 8 _law_lines 9 _law_sketch 10 _law_due 11 _law_other 12 _law_asks 13 _law_rough 14 _law_last -/
abbrev N_law : List Str := ["_law_script", "_law_bag_here", "_law_turn", "_law_far", "_law_hues", "_law_knots", "_law_wide", "_law_many", "_law_lines", "_law_sketch", "_law_due", "_law_other", "_law_asks", "_law_rough", "_law_last"]
theorem S_law : FnScope N_law ["_law_script"] (defScope s_law) := ⟨rfl, rfl, rfl, by decide +kernel, rfl, by decide +kernel, by decide +kernel⟩
def lt_law_0 : SS := sSeq (sIf (tAnd (tOf (eBin dNotN (eVarB 10) (eC .non))) (tNot (tOf (eCall (m_l_alike 8) (rCons (eSl dSl (eVarB 12) (oNo) (oSo (eC (.int 2)))) (rCons (eLst (aCons (eVar 10) (aCons (eVar 10) (aNil)))) (rNil))))))) (sRet (eC (.bl false))) (sNext))
    (sFrz 12 (sIf (tAnd (tOf (eBin dIsN (eVarB 10) (eC .non))) (tNot (tOf (eCall m_l_sized (rCons (eVar 12) (rCons (eVar 9) (rNil))))))) (sRet (eC (.bl false))) (sNext)))
def lt_law_1 : SS := sSeq (sIf (tNot (tOf (eCall (m_l_alike 8) (rCons (eBin dIx (eVarB 12) (eC (.int 2))) (rCons (eIf (tOf (eBin dNotN (eVarB 11) (eC .non))) (eVar 11) (eVar 14)) (rNil)))))) (sRet (eC (.bl false))) (sNext))
    (lt_law_0)
def lt_law_2 : SS := sSeq (sSet 14 (eIf (tOf (eBin dIsN (eVarB 13) (eC .non))) (eTup (aCons (eC (.str "told")) (aCons (eLst (aNil)) (aNil)))) (eTup (aCons (eC (.str "no")) (aCons (eC (.str "BadNet")) (aCons (eVar 13) (aNil)))))))
    (lt_law_1)
def lt_law_3 : SS := sSeq (sSet 13 (eIf (tOf (eBin dIsN (eVarB 11) (eC .non))) (eCall m_l_rough_fault (rCons (eTup (aCons (eC (.int 2)) (aCons (eVar 5) (aCons (eVar 8) (aCons (eLst (aNil)) (aNil)))))) (rNil))) (eC .non)))
    (lt_law_2)
def lt_law_4 : SS := sSeq (sMut 12 mAppend (aCons (eTried tab "told" "no" (eCall m_complete_swaps (rDef (rCons (eVar 5) (rCons (eVar 8) (rNil))) d_complete_swaps))) (aNil)))
    (lt_law_3)
def lt_law_5 : SS := sSeq (sMut 12 mAppend (aCons (eTried tab "told" "no" (eMake "Net" m_Net_init (rDef (rCons (eVar 4) (rCons (eVar 5) (rCons (eVar 8) (rNil)))) d_Net_init))) (aNil)))
    (lt_law_4)
def lt_law_6 : SS := sSeq (sSetF 12 (eLst (aCons (eTried tab "told" "no" (eCall m_net_fault (rCons (eVar 4) (rCons (eVar 5) (rCons (eVar 8) (rCons (eLst (aCons (eTup (aCons (eC (.int 9)) (aNil))) (aNil))) (rNil))))))) (aNil))))
    (lt_law_5)
def lt_law_7 : SS := sSeq (sPar 10 11 (eCall m_l_size_fault (rCons (eVar 9) (rNil))) (eCall m_l_size_fault (rCons (eTup (aCons (eC (.int 2)) (aCons (eVar 5) (aCons (eVar 8) (aCons (eLst (aNil)) (aNil)))))) (rNil))))
    (lt_law_6)
def lt_law_8 : SS := sSeq (sSet 9 (eTup (aCons (eVar 4) (aCons (eVar 5) (aCons (eVar 8) (aCons (eLst (aNil)) (aNil)))))))
    (lt_law_7)
def lt_law_9 : SS := sSeq (sIf (tOf (eBin dEq (eCallIo m_l_take (rIo 1 (rCons (eC (.int 3)) (rNil)))) (eC (.int 0)))) (sSet 8 (eBin dAdd (eSl dSl (eVarB 8) (oSo (eC (.int 1))) (oNo)) (eLst (aCons (eTup (aCons (eC (.int 7)) (aCons (eC (.int 0)) (aCons (eC (.int 0)) (aNil))))) (aNil))))) (sNext))
    (lt_law_8)
def lt_law_10 : SS := sSeq (sSet 8 (eBin dMul (eLst (aCons (eTup (aCons (eC (.int 0)) (aCons (eCallIo m_l_take (rIo 1 (rCons (eVar 6) (rNil)))) (aCons (eCallIo m_l_take (rIo 1 (rCons (eVar 6) (rNil)))) (aNil))))) (aNil))) (eVarB 7)))
    (lt_law_9)
def lt_law_11 : SS := sSeq (sSet 7 (eCallIo m_l_pick (rIo 1 (rCons (eLst (aCons (eC (.int 120)) (aCons (eC (.int 121)) (aCons (eC (.int 0)) (aCons (eC (.int 3)) (aCons (eCallIo m_l_take (rIo 1 (rCons (eC (.int 123)) (rNil)))) (aNil))))))) (rNil)))))
    (lt_law_10)
def lt_law_12 : SS := sSeq (sSet 6 (eCallB cMax (aCons (eC (.int 1)) (aCons (eCallB cMin (aCons (eVarB 5) (aCons (eC (.int 30)) (aNil)))) (aNil)))))
    (lt_law_11)
def lt_law_13 : SS := sSeq (sSet 5 (eCallIo m_l_pick (rIo 1 (rCons (eLst (aCons (eBin dAdd (eC (.int 1)) (eCallIo m_l_take (rIo 1 (rCons (eC (.int 30)) (rNil))))) (aCons (eC (.int 30)) (aCons (eC (.int 31)) (aCons (eC (.int 0)) (aCons (eBin dSub (eC (.int 0)) (eVarB 3)) (aCons (eBin dAdd (eC (.int 31)) (eVarB 3)) (aCons (eC (.int 5)) (aNil))))))))) (rNil)))))
    (lt_law_12)
def lt_law_14 : SS := sSeq (sSet 4 (eCallIo m_l_pick (rIo 1 (rCons (eLst (aCons (eC (.int 1)) (aCons (eC (.int 1)) (aCons (eC (.int 2)) (aCons (eC (.int 3)) (aCons (eC (.int 0)) (aCons (eC (.int 4)) (aCons (eBin dSub (eUn dNeg (eC (.int 1))) (eVarB 3)) (aCons (eBin dAdd (eC (.int 4)) (eVarB 3)) (aNil)))))))))) (rNil)))))
    (lt_law_13)
def lt_law_15 : SS := sSeq (sSet 3 (eCallIo m_l_take (rIo 1 (rCons (eBin dPow (eC (.int 10)) (eC (.int 30))) (rNil)))))
    (lt_law_14)
def lb_law_0 : SS := lt_law_15
def b_law : SS := sSeq (sSetF 1 (eCall m_l_bag (rCons (eVar 0) (rNil))))
    (sLend 1 (sSeq (sFor (iRng1 (aCons (eC (.int 4)) (aNil))) (gN 2) lb_law_0)
    (sRet (eBin dEq (eLst (aCons (eC (.int 3)) (aCons (eC (.int 30)) (aCons (eC (.int 120)) (aNil))))) (eLst (aCons (eC (.int 3)) (aCons (eC (.int 30)) (aCons (eC (.int 120)) (aNil)))))))))
def m_law : MF := runB false 15 b_law
theorem hb_law (c : SX K mg) (hTb : Tb.T = LT K) (TB : LamX.TabB base mg (cT K ("law", none)).1 (cT K ("law", none)).2) (A : Around) (outer : List PySem.Env) (s : Shared) (H : Hp) (E : XK) (hr : Room 12 (A.deeper (envOfC "law" (defScope s_law) s.heap.objs.size (fAd K ("law", none)) (.ref (He.codeOf K ("law", none)))))) :
    EL (cxOf (L2.CX P w) P w K mg base N_law "law" (defScope s_law) (fAd K ("law", none)) (.ref (He.codeOf K ("law", none))) A outer s H E) (WX0 E) false (defBody s_law) (b_law) := by
  have hN := S_law.nd
  obtain ⟨t_COLORS, h_COLORS⟩ := c.int 57 (x := "COLORS") (j := 3)
  obtain ⟨t_EDGES, h_EDGES⟩ := c.int 58 (x := "EDGES") (j := 120)
  obtain ⟨t_NODES, h_NODES⟩ := c.int 59 (x := "NODES") (j := 30)
  have hmT : ((cT K ("law", none)).2, (envOfC "law" (defScope s_law) s.heap.objs.size (fAd K ("law", none)) (.ref (He.codeOf K ("law", none)))).qual ++ "<lambda>") ∈ Tb.T := by rw [hTb]; simp [LT]; rfl
  have hu : ∀ p ∈ Tb.T, p.1 = (cT K ("law", none)).2 → p.2 = (envOfC "law" (defScope s_law) s.heap.objs.size (fAd K ("law", none)) (.ref (He.codeOf K ("law", none)))).qual ++ "<lambda>" := by
    intro p hp _
    rw [hTb] at hp
    rw [List.mem_singleton.mp hp]
    rfl
  refine el_cons ?_ ?_
  · exact es_setF 1 (ef_c (ok_l_bag c) hr (an_cons (ev_var 0) (an_nil)))
  refine el_lend 1 ?_
  refine el_cons ?_ ?_
  · refine es_for (eiv_rng1 rfl (c.free 5) (ea_cons (ev_b (ev_int)) (ea_nil))) (eg_n (is := [2]) 2) ?_ (passes_of rfl)
    refine el_cons ?_ ?_
    · exact es_set 3 (ev_cIo (ok_l_take c) hr (an_io 1 (an_cons (ev_op op_pow opd_pow (ev_b (ev_int)) (ev_b (ev_int))) (an_nil))))
    refine el_cons ?_ ?_
    · exact es_set 4 (ev_cIo (ok_l_pick c) hr (an_io 1 (an_cons (ef_v (ef_lst (eav_cons (ev_int) (eav_cons (ev_int) (eav_cons (ev_int) (eav_cons (ev_int) (eav_cons (ev_int) (eav_cons (ev_int) (eav_cons (ev_op op_sub opd_sub (ev_b (ev_un un_neg und_neg (ev_b (ev_int)))) (eb_var 3)) (eav_cons (ev_op op_addA opd_add (ev_b (ev_int)) (eb_var 3)) (eav_nil))))))))))) (an_nil))))
    refine el_cons ?_ ?_
    · exact es_set 5 (ev_cIo (ok_l_pick c) hr (an_io 1 (an_cons (ef_v (ef_lst (eav_cons (ev_op op_addA opd_add (ev_b (ev_int)) (ev_b (ev_cIo (ok_l_take c) hr (an_io 1 (an_cons (ev_int) (an_nil)))))) (eav_cons (ev_int) (eav_cons (ev_int) (eav_cons (ev_int) (eav_cons (ev_op op_sub opd_sub (ev_b (ev_int)) (eb_var 3)) (eav_cons (ev_op op_addA opd_add (ev_b (ev_int)) (eb_var 3)) (eav_cons (ev_int) (eav_nil)))))))))) (an_nil))))
    refine el_cons ?_ ?_
    · exact es_set 6 (ev_callB (call_max2 rfl) cd_max rfl (c.free 12) rfl (ea_cons (ev_b (ev_int)) (ea_cons (ev_b (ev_callB (call_min2 rfl) cd_min rfl (c.free 11) rfl (ea_cons (eb_var 5) (ea_cons (ev_b (ev_int)) (ea_nil))))) (ea_nil))))
    refine el_cons ?_ ?_
    · exact es_set 7 (ev_cIo (ok_l_pick c) hr (an_io 1 (an_cons (ef_v (ef_lst (eav_cons (ev_int) (eav_cons (ev_int) (eav_cons (ev_int) (eav_cons (ev_int) (eav_cons (ev_cIo (ok_l_take c) hr (an_io 1 (an_cons (ev_int) (an_nil)))) (eav_nil)))))))) (an_nil))))
    refine el_cons ?_ ?_
    · exact es_set 8 (ev_op op_mulA opd_mul (ev_b (ef_v (ef_lst (eav_cons (ev_tup (eav_cons (ev_int) (eav_cons (ev_cIo (ok_l_take c) hr (an_io 1 (an_cons (ev_var 6) (an_nil)))) (eav_cons (ev_cIo (ok_l_take c) hr (an_io 1 (an_cons (ev_var 6) (an_nil)))) (eav_nil))))) (eav_nil))))) (eb_var 7))
    refine el_cons ?_ ?_
    · refine es_if (et_cmp (op_eqD hr.units) opd_eq (ev_b (ev_cIo (ok_l_take c) hr (an_io 1 (an_cons (ev_int) (an_nil))))) (ev_b (ev_int)) rfl) ?_ ?_
      · refine el_one ?_
        exact es_set 8 (ev_op op_addA opd_add (ev_b (ev_sl (eb_var 8) (eo_so (ev_int)) (eo_no))) (ev_b (ef_v (ef_lst (eav_cons (ev_tup (eav_cons (ev_int) (eav_cons (ev_int) (eav_cons (ev_int) (eav_nil))))) (eav_nil))))))
      · exact el_nil
    refine el_cons ?_ ?_
    · exact es_set 9 (ev_tup (eav_cons (ev_var 4) (eav_cons (ev_var 5) (eav_cons (ev_var 8) (eav_cons (ef_v (ef_lst (eav_nil))) (eav_nil))))))
    refine el_cons ?_ ?_
    · exact es_par 10 11 (ev_c (ok_l_size_fault c) hr (an_cons (ev_var 9) (an_nil))) (ev_c (ok_l_size_fault c) hr (an_cons (ev_tup (eav_cons (ev_int) (eav_cons (ev_var 5) (eav_cons (ev_var 8) (eav_cons (ef_v (ef_lst (eav_nil))) (eav_nil)))))) (an_nil)))
    refine el_cons ?_ ?_
    · exact es_setF 12 (ef_lst (eav_cons (ev_trd (k := 10) (ok_tried c) (tab_ok c) (c.glo 13) TB (by rfl) hmT hu hr (LamX.lamS_by (by rfl)) (fun _ _ _ _ _ => by rfl) (fun A2 o2 s2 H2 E2 f2 c2 hr => by exact ev_c (ok_net_fault c) hr (an_cons (ev_var 4) (an_cons (ev_var 5) (an_cons (ev_var 8) (an_cons (ef_v (ef_lst (eav_cons (ev_tup (eav_cons (ev_int) (eav_nil))) (eav_nil)))) (an_nil))))))) (eav_nil)))
    refine el_cons ?_ ?_
    · refine es_mut 12 mt_append md_append PySem.F.slot_list_append PySem.F.type_list_append ?_
      exact eav_cons (ev_trd (k := 10) (ok_tried c) (tab_ok c) (c.glo 13) TB (by rfl) hmT hu hr (LamX.lamS_by (by rfl)) (fun _ _ _ _ _ => by rfl) (fun A2 o2 s2 H2 E2 f2 c2 hr => by exact ef_v (ef_mkD (ok_Net_init c) hr (an_cons (ev_var 4) (an_cons (ev_var 5) (an_cons (ev_var 8) (an_nil))))))) (eav_nil)
    refine el_cons ?_ ?_
    · refine es_mut 12 mt_append md_append PySem.F.slot_list_append PySem.F.type_list_append ?_
      exact eav_cons (ev_trd (k := 10) (ok_tried c) (tab_ok c) (c.glo 13) TB (by rfl) hmT hu hr (LamX.lamS_by (by rfl)) (fun _ _ _ _ _ => by rfl) (fun A2 o2 s2 H2 E2 f2 c2 hr => by exact ef_v (ef_cD (ok_complete_swaps c) hr (an_cons (ev_var 5) (an_cons (ev_var 8) (an_nil)))))) (eav_nil)
    refine el_cons ?_ ?_
    · exact es_set 13 (ev_if (et_cmp op_isN opd_isN (eb_var 11) (ev_b (ev_non)) rfl) (ev_c (ok_l_rough_fault c) hr (an_cons (ev_tup (eav_cons (ev_int) (eav_cons (ev_var 5) (eav_cons (ev_var 8) (eav_cons (ef_v (ef_lst (eav_nil))) (eav_nil)))))) (an_nil))) (ev_non))
    refine el_cons ?_ ?_
    · exact es_set 14 (ev_if (et_cmp op_isN opd_isN (eb_var 13) (ev_b (ev_non)) rfl) (ev_tup (eav_cons (ev_str) (eav_cons (ef_v (ef_lst (eav_nil))) (eav_nil)))) (ev_tup (eav_cons (ev_str) (eav_cons (ev_str) (eav_cons (ev_var 13) (eav_nil))))))
    refine el_cons ?_ ?_
    · refine es_if (et_not (et_val (ev_c (ok_l_alike 8 c) hr (an_cons (ev_ix ix_seq opd_ix (eb_var 12) (ev_b (ev_int))) (an_cons (ev_if (et_cmp op_notN opd_notN (eb_var 11) (ev_b (ev_non)) rfl) (ev_var 11) (ev_var 14)) (an_nil)))))) ?_ ?_
      · refine el_one ?_
        exact es_ret (ev_bl)
      · exact el_nil
    refine el_cons ?_ ?_
    · refine es_if (PW.pt (ew_and (et_cmp op_notN opd_notN (eb_var 10) (ev_b (ev_non)) rfl) (ew_and1 (et_not (et_val (ev_c (ok_l_alike 8 c) hr (an_cons (ev_sl (eb_var 12) (eo_no) (eo_so (ev_int))) (an_cons (ef_v (ef_lst (eav_cons (ev_var 10) (eav_cons (ev_var 10) (eav_nil))))) (an_nil))))))))) ?_ ?_
      · refine el_one ?_
        exact es_ret (ev_bl)
      · exact el_nil
    refine el_frz 12 ?_
    refine el_one ?_
    refine es_if (PW.pt (ew_and (et_cmp op_isN opd_isN (eb_var 10) (ev_b (ev_non)) rfl) (ew_and1 (et_not (et_val (ev_c (ok_l_sized c) hr (an_cons (ev_var 12) (an_cons (ev_var 9) (an_nil))))))))) ?_ ?_
    · refine el_one ?_
      exact es_ret (ev_bl)
    · exact el_nil
  refine el_one ?_
  exact es_ret (ev_cmp (op_eqD hr.units) opd_eq (ev_b (ef_v (ef_lst (eav_cons ((ev_gint rfl h_COLORS)) (eav_cons ((ev_gint rfl h_NODES)) (eav_cons ((ev_gint rfl h_EDGES)) (eav_nil))))))) (ev_b (ef_v (ef_lst (eav_cons (ev_int) (eav_cons (ev_int) (eav_cons (ev_int) (eav_nil))))))) rfl)
theorem ok_law (c : SX K mg) (hTb : Tb.T = LT K) (TB : LamX.TabB base mg (cT K ("law", none)).1 (cT K ("law", none)).2) {fd : FuncData} (F : FunD K "law" "law" (defArgs s_law) (defBody s_law) (defScope s_law) [] [] (fAd K ("law", none)) fd) : FnOk P w K mg base (L2.CX P w) 13 (fAd K ("law", none)) fd ["_law_script"] (SpOf ⟨K, mg⟩ false 1 m_law) :=
  defL_ok (k := 12) F S_law (hb_law c hTb TB)
end
end K03
set_option maxHeartbeats 400000
/-! Hw, part 20: the functions of the operators, by cases (for the plain laws). -/
namespace Hw
open PySem PySem.Spec L2
theorem eqv_int (a b : Int) : PyData.eqv (.int a) (.int b) = decide (a = b) := by
  show (a == b) = decide (a = b)
  exact (Bool.eq_iff_iff.mpr (by simp))
theorem okPd_int (a : Int) : okPd (.int a) = true := rfl
theorem dEq_int (a b : Int) : dEq (.int a) (.int b) = some (.bl (decide (a = b))) := by
  unfold dEq
  rw [okPd_int, okPd_int, Bool.and_self, if_pos rfl]
  show some (D.bl (PyData.eqv (.int a) (.int b))) = _
  rw [eqv_int]
theorem dLt_int (a b : Int) : dLt (.int a) (.int b) = some (.bl (decide (a < b))) := rfl
theorem dLe_int (a b : Int) : dLe (.int a) (.int b) = some (.bl (decide (a ≤ b))) := rfl
theorem dGt_int (a b : Int) : dGt (.int a) (.int b) = some (.bl (decide (b < a))) := rfl
theorem dGe_int (a b : Int) : dGe (.int a) (.int b) = some (.bl (decide (b ≤ a))) := rfl
theorem dAdd_int (a b : Int) : dAdd (.int a) (.int b) = some (.int (a + b)) := rfl
theorem dSub_int (a b : Int) : dSub (.int a) (.int b) = some (.int (a - b)) := rfl
theorem dMod_int {a b : Int} (h : 0 < b) : dMod (.int a) (.int b) = some (.int (a % b)) := by
  simp [dMod, dInt, h]
theorem dFdiv_int {a b : Int} (h : 0 < b) (h2 : b.natAbs.log2 < 9000) : dFdiv (.int a) (.int b) = some (.int (a / b)) := by
  simp [dFdiv, dInt, h, h2]
theorem dMul_intR {a b : Int} (h : -(2 ^ 64) < b ∧ b < 2 ^ 64) : dMul (.int a) (.int b) = some (.int (a * b)) := by
  simp only [dMul]
  rw [if_pos (Or.inr h)]
theorem dMul_intL {a b : Int} (h : -(2 ^ 64) < a ∧ a < 2 ^ 64) : dMul (.int a) (.int b) = some (.int (a * b)) := by
  simp only [dMul]
  rw [if_pos (Or.inl h)]
theorem dPow_int {a b : Int} (h : 0 ≤ b ∧ b ≤ 1000000 ∧ a.natAbs < 2 ^ 64) : dPow (.int a) (.int b) = some (.int (a ^ b.toNat)) := by
  simp only [dPow, dInt]
  rw [if_pos h]
  rfl
end Hw
set_option maxHeartbeats 400000
namespace K03
open PySem PySem.Spec L2 Hw
/-- the bag -/
structure Bag (d : D) : Prop where
  ex : ∃ (cs : List Int) (i : Nat) (x y z : Int), d = .lst [.lst (cs.map D.int), .int i, .int x, .int y, .int z] ∧ 0 ≤ x
def bagD (cs : List Int) (i x y z : Int) : D := .lst [.lst (cs.map D.int), .int i, .int x, .int y, .int z]
theorem ix_bag (cs : List Int) (i x y z : Int) : atI [D.lst (cs.map D.int), .int i, .int x, .int y, .int z] 0 = some (.lst (cs.map D.int)) ∧ atI [D.lst (cs.map D.int), .int i, .int x, .int y, .int z] 1 = some (.int i) ∧ atI [D.lst (cs.map D.int), .int i, .int x, .int y, .int z] 2 = some (.int x) ∧
    atI [D.lst (cs.map D.int), .int i, .int x, .int y, .int z] 3 = some (.int y) ∧ atI [D.lst (cs.map D.int), .int i, .int x, .int y, .int z] 4 = some (.int z) := ⟨rfl, rfl, rfl, rfl, rfl⟩
theorem io_ix (cs : List Int) (i x y z : Int) (ρ : Rho) (h : ρ[0]? = some (.io 0)) : eIoIx 0 0 ρ [bagD cs i x y z] = .ok (.lst (cs.map D.int)) [bagD cs i x y z] ∧ eIoIx 0 1 ρ [bagD cs i x y z] = .ok (.int i) [bagD cs i x y z] ∧ eIoIx 0 2 ρ [bagD cs i x y z] = .ok (.int x) [bagD cs i x y z] ∧
    eIoIx 0 3 ρ [bagD cs i x y z] = .ok (.int y) [bagD cs i x y z] ∧ eIoIx 0 4 ρ [bagD cs i x y z] = .ok (.int z) [bagD cs i x y z] := by
  refine ⟨?_, ?_, ?_, ?_, ?_⟩ <;> (unfold eIoIx; rw [h]; rfl)
theorem put2 (cs : List Int) (i x y z v : Int) (ρ : Rho) (h : ρ[0]? = some (.io 0)) (m : SE) (hm : m ρ [bagD cs i x y z] = .ok (.int v) [bagD cs i x y z]) : sPut 0 (eC (.int 2)) m ρ [bagD cs i x y z] = .nx ρ [bagD cs i v y z] := by
  unfold sPut
  rw [hm]
  simp only [Out.andS, getC, h, eC]
  unfold setC
  rw [h]
  rfl
theorem put1 (cs : List Int) (i x y z v : Int) (ρ : Rho) (h : ρ[0]? = some (.io 0)) (m : SE) (hm : m ρ [bagD cs i x y z] = .ok (.int v) [bagD cs i x y z]) : sPut 0 (eC (.int 1)) m ρ [bagD cs i x y z] = .nx ρ [bagD cs v x y z] := by
  unfold sPut
  rw [hm]
  simp only [Out.andS, getC, h, eC]
  unfold setC
  rw [h]
  rfl
theorem put3 (cs : List Int) (i x y z v : Int) (ρ : Rho) (h : ρ[0]? = some (.io 0)) (m : SE) (hm : m ρ [bagD cs i x y z] = .ok (.int v) [bagD cs i x y z]) : sPut 0 (eC (.int 3)) m ρ [bagD cs i x y z] = .nx ρ [bagD cs i x v z] := by
  unfold sPut
  rw [hm]
  simp only [Out.andS, getC, h, eC]
  unfold setC
  rw [h]
  rfl
theorem put4 (cs : List Int) (i x y z v : Int) (ρ : Rho) (h : ρ[0]? = some (.io 0)) (m : SE) (hm : m ρ [bagD cs i x y z] = .ok (.int v) [bagD cs i x y z]) : sPut 0 (eC (.int 4)) m ρ [bagD cs i x y z] = .nx ρ [bagD cs i x y v] := by
  unfold sPut
  rw [hm]
  simp only [Out.andS, getC, h, eC]
  unfold setC
  rw [h]
  rfl
/-- an operator on ints -/
theorem bin_int {f : D → D → Option D} {a b : SE} {ρ : Rho} {τ : Tau} {i j : Int} {z : D} (ha : a ρ τ = .ok (.int i) τ) (hb : b ρ τ = .ok (.int j) τ) (hf : f (.int i) (.int j) = some z) : eBin f a b ρ τ = .ok z τ := by
  unfold eBin
  rw [ha]
  simp only [Out.bind]
  rw [hb]
  simp only [Out.bind, Out.of, hf]
theorem seq_nx {a b : SS} {ρ ρ1 : Rho} {τ τ1 : Tau} (h : a ρ τ = .nx ρ1 τ1) : sSeq a b ρ τ = b ρ1 τ1 := by
  unfold sSeq
  rw [h]
theorem seq_ret {a b : SS} {ρ : Rho} {τ τ1 : Tau} {d : D} (h : a ρ τ = .ret d τ1) : sSeq a b ρ τ = .ret d τ1 := by
  unfold sSeq
  rw [h]
theorem if_t {t : ST} {a b : SS} {ρ : Rho} {τ τ1 : Tau} (h : t ρ τ = .ok true τ1) : sIf t a b ρ τ = a ρ τ1 := by
  unfold sIf
  rw [h]
  simp only [Out.andS, if_pos]
theorem if_f {t : ST} {a b : SS} {ρ : Rho} {τ τ1 : Tau} (h : t ρ τ = .ok false τ1) : sIf t a b ρ τ = b ρ τ1 := by
  unfold sIf
  rw [h]
  simp [Out.andS]
theorem set_ok' {i : Nat} {m : SE} {ρ : Rho} {τ τ1 : Tau} {d : D} (h : m ρ τ = .ok d τ1) : sSet i m ρ τ = .nx (ρ.set i (.fz d)) τ1 := by
  unfold sSet
  rw [h]
  rfl
theorem ret_ok' {m : SE} {ρ : Rho} {τ τ1 : Tau} {d : D} (h : m ρ τ = .ok d τ1) : sRet m ρ τ = .ret d τ1 := by
  unfold sRet
  rw [h]
  rfl
theorem tof_ok {m : SE} {ρ : Rho} {τ τ1 : Tau} {b : Bool} (h : m ρ τ = .ok (.bl b) τ1) : tOf m ρ τ = .ok b τ1 := by
  unfold tOf
  rw [h]
  rfl
def tkTail : SS := sSeq (sIf (tOf (eBin dGt (eIoIx 0 2) (eC (.int 0)))) (sSeq (sSet 3 (eBin dMod (eIoIx 0 2) (eVarB 1)))
    (sSeq (sPut 0 (eC (.int 2)) (eBin dFdiv (eIoIx 0 2) (eVarB 1)))
    (sRet (eVar 3)))) (sNext))
    (sSeq (sPut 0 (eC (.int 4)) (eBin dAdd (eIoIx 0 4) (eC (.int 1))))
    (sSeq (sSet 4 (eBin dMod (eBin dAdd (eIoIx 0 3) (eBin dMul (eIoIx 0 4) (eC (.int 9241)))) (eC (.int 2147483647))))
    (sSeq (sPut 0 (eC (.int 3)) (eBin dMod (eBin dAdd (eBin dAdd (eBin dPow (eVarB 4) (eC (.int 3))) (eBin dMul (eC (.int 50021)) (eVarB 4))) (eC (.int 4099))) (eC (.int 2147483647))))
    (sRet (eBin dMod (eBin dAdd (eBin dFdiv (eIoIx 0 3) (eC (.int 67))) (eBin dMul (eBin dMod (eIoIx 0 3) (eC (.int 7919))) (eC (.int 37)))) (eVarB 1))))))
theorem varB {ρ : Rho} {τ : Tau} {i : Nat} {d : D} (h : ρ[i]? = some (.fz d)) : eVarB i ρ τ = .ok d τ := by
  unfold eVarB
  rw [h]
theorem var {ρ : Rho} {τ : Tau} {i : Nat} {d : D} (h : ρ[i]? = some (.fz d)) : eVar i ρ τ = .ok d τ := by
  unfold eVar
  rw [h]
theorem tail_ok (cs : List Int) (i x y z n : Int) (a b c : Sv) (h1 : 1 ≤ n) (h2 : n.natAbs.log2 < 9000) (hx : 0 ≤ x) : ∃ v i' x' y' z', tkTail [.io 0, .fz (.int n), a, b, c] [bagD cs i x y z] = .ret (.int v) [bagD cs i' x' y' z'] ∧ 0 ≤ v ∧ v < n ∧ i' = i ∧ 0 ≤ x' := by
  have k : ∀ (j : Int) (ρ : Rho) (τ : Tau), eC (.int j) ρ τ = .ok (.int j) τ := fun _ _ _ => rfl
  by_cases c1 : 0 < x
  · refine ⟨x % n, i, x / n, y, z, ?_, Int.emod_nonneg _ (by omega), Int.emod_lt_of_pos _ (by omega), rfl, Int.ediv_nonneg hx (by omega)⟩
    unfold tkTail
    have e1 := tof_ok (bin_int (f := dGt) (io_ix cs i x y z [.io 0, .fz (.int n), a, b, c] rfl).2.2.1 (k 0 _ _) (by rw [dGt_int, decide_eq_true c1]))
    refine (seq_ret ((if_t e1).trans ?_))
    have e2 := bin_int (f := dMod) (io_ix cs i x y z [.io 0, .fz (.int n), a, b, c] rfl).2.2.1 (varB (i := 1) (d := .int n) rfl) (dMod_int (a := x) (b := n) (by omega))
    refine (seq_nx (set_ok' (i := 3) e2)).trans ?_
    have e3 := bin_int (f := dFdiv) (io_ix cs i x y z [.io 0, .fz (.int n), a, .fz (.int (x % n)), c] rfl).2.2.1 (varB (i := 1) (d := .int n) rfl) (dFdiv_int (a := x) (b := n) (by omega) h2)
    exact (seq_nx (put2 cs i x y z (x / n) [.io 0, .fz (.int n), a, .fz (.int (x % n)), c] rfl _ e3)).trans (ret_ok' rfl)
  · have hx0 : x = 0 := by omega
    subst hx0
    have e1 := tof_ok (bin_int (f := dGt) (io_ix cs i 0 y z [.io 0, .fz (.int n), a, b, c] rfl).2.2.1 (k 0 _ _) (by rw [dGt_int, decide_eq_false (by omega)]))
    have q : ∃ v y', tkTail [.io 0, .fz (.int n), a, b, c] [bagD cs i 0 y z] = .ret (.int (v % n)) [bagD cs i 0 y' (z + 1)] := by
      unfold tkTail
      have e2 := bin_int (f := dAdd) (io_ix cs i 0 y z [.io 0, .fz (.int n), a, b, c] rfl).2.2.2.2 (k 1 _ _) (dAdd_int _ _)
      have e3 := bin_int (f := dMod) (bin_int (f := dAdd) (io_ix cs i 0 y (z + 1) [.io 0, .fz (.int n), a, b, c] rfl).2.2.2.1 (bin_int (f := dMul) (io_ix cs i 0 y (z + 1) [.io 0, .fz (.int n), a, b, c] rfl).2.2.2.2 (k 9241 _ _) (dMul_intR (by omega))) (dAdd_int _ _)) (k 2147483647 _ _) (dMod_int (by omega))
      have hs := Int.emod_nonneg (y + (z + 1) * 9241) (b := 2147483647) (by omega)
      have hs2 := Int.emod_lt_of_pos (y + (z + 1) * 9241) (b := 2147483647) (by omega)
      generalize (y + (z + 1) * 9241) % 2147483647 = sd at e3 hs hs2
      have v4 : ∀ τ : Tau, eVarB 4 [.io 0, .fz (.int n), a, b, .fz (.int sd)] τ = .ok (.int sd) τ := fun τ => rfl
      have e4 := bin_int (f := dMod) (bin_int (f := dAdd) (bin_int (f := dAdd) (bin_int (f := dPow) (v4 [bagD cs i 0 y (z + 1)]) (k 3 _ _) (dPow_int ⟨by omega, by omega, by omega⟩)) (bin_int (f := dMul) (k 50021 _ _) (v4 _) (dMul_intL (by omega))) (dAdd_int _ _)) (k 4099 _ _) (dAdd_int _ _)) (k 2147483647 _ _) (dMod_int (by omega))
      generalize (sd ^ Int.toNat 3 + 50021 * sd + 4099) % 2147483647 = w at e4
      have e5 := bin_int (f := dMod) (bin_int (f := dAdd) (bin_int (f := dFdiv) (io_ix cs i 0 w (z + 1) [.io 0, .fz (.int n), a, b, .fz (.int sd)] rfl).2.2.2.1 (k 67 _ _) (dFdiv_int (by omega) (by decide))) (bin_int (f := dMul) (bin_int (f := dMod) (io_ix cs i 0 w (z + 1) [.io 0, .fz (.int n), a, b, .fz (.int sd)] rfl).2.2.2.1 (k 7919 _ _) (dMod_int (by omega))) (k 37 _ _) (dMul_intR (by omega))) (dAdd_int _ _)) (varB (i := 1) (d := .int n) rfl) (dMod_int (by omega))
      exact ⟨_, w, (seq_nx ((if_f e1).trans rfl)).trans ((seq_nx (put4 cs i 0 y z (z + 1) _ rfl _ e2)).trans ((seq_nx (set_ok' (i := 4) e3)).trans ((seq_nx (put3 cs i 0 y (z + 1) w [.io 0, .fz (.int n), a, b, .fz (.int sd)] rfl _ e4)).trans (ret_ok' e5))))⟩
    obtain ⟨v, y', q⟩ := q
    exact ⟨v % n, i, 0, y', z + 1, q, Int.emod_nonneg _ (by omega), Int.emod_lt_of_pos _ (by omega), rfl, Int.le_refl _⟩
end K03
set_option maxHeartbeats 400000
namespace K03
open PySem PySem.Spec L2 Hw
def tkHead : SS := sIf (tAnd (tOf (eBin dEq (eIoIx 0 2) (eC (.int 0)))) (tOf (eBin dLt (eIoIx 0 1) (eCallB cLen (aCons (eIoIx 0 0) (aNil)))))) (sSeq (sSet 2 (eBin dIx (eIoIx 0 0) (eIoIx 0 1)))
    (sSeq (sPut 0 (eC (.int 1)) (eBin dAdd (eIoIx 0 1) (eC (.int 1))))
    (sIf (tOf (eBin dGe (eVarB 2) (eBin dPow (eC (.int 10)) (eC (.int 18))))) (sPut 0 (eC (.int 2)) (eVar 2)) (sPut 0 (eC (.int 3)) (eBin dMod (eBin dAdd (eBin dAdd (eBin dMul (eIoIx 0 3) (eC (.int 40013))) (eBin dMod (eVarB 2) (eC (.int 2147483563)))) (eC (.int 7))) (eC (.int 2147483647))))))) (sNext)
theorem b_take_eq : b_l_take = sSeq tkHead tkTail := rfl
theorem and_f {a b : ST} {ρ : Rho} {τ τ1 : Tau} (h : a ρ τ = .ok false τ1) : tAnd a b ρ τ = .ok false τ1 := by
  unfold Hw.tAnd
  rw [h]
  rfl
theorem and_t {a b : ST} {ρ : Rho} {τ τ1 : Tau} (h : a ρ τ = .ok true τ1) : tAnd a b ρ τ = b ρ τ1 := by
  unfold Hw.tAnd
  rw [h]
  rfl
theorem kk (j : Int) (ρ : Rho) (τ : Tau) : eC (.int j) ρ τ = .ok (.int j) τ := rfl
theorem ix_cs (cs : List Int) (i : Int) (h : 0 ≤ i) (h2 : i < cs.length) : ∃ v, dIx (.lst (cs.map D.int)) (.int i) = some (.int v) := by
  have hn : i.toNat < cs.length := by omega
  refine ⟨cs[i.toNat]'hn, ?_⟩
  show atI (cs.map D.int) i = _
  unfold atI
  have e : ixN cs.length i = some i.toNat := by
    unfold ixN
    simp [h, h2, hn]
    try omega
  simp [e, hn, List.getElem?_eq_getElem]
theorem head_ok (cs : List Int) (i x y z n : Int) (hi : 0 ≤ i) (hx : 0 ≤ x) : ∃ a i' x' y', tkHead [.io 0, .fz (.int n), .no, .no, .no] [bagD cs i x y z] = .nx [.io 0, .fz (.int n), a, .no, .no] [bagD cs i' x' y' z] ∧ 0 ≤ i' ∧ 0 ≤ x' := by
  unfold tkHead
  have e1 := tof_ok (bin_int (f := dEq) (io_ix cs i x y z [.io 0, .fz (.int n), .no, .no, .no] rfl).2.2.1 (kk 0 _ _) (dEq_int _ _))
  by_cases c1 : x = 0
  · have el : eCallB cLen (aCons (eIoIx 0 0) (aNil)) [.io 0, .fz (.int n), .no, .no, .no] [bagD cs i x y z] = .ok (.int cs.length) [bagD cs i x y z] := by
      unfold eCallB aCons aNil
      rw [(io_ix cs i x y z [.io 0, .fz (.int n), .no, .no, .no] rfl).1]
      simp [Out.bind, Out.of, cLen]
    have e2 := tof_ok (bin_int (f := dLt) (io_ix cs i x y z [.io 0, .fz (.int n), .no, .no, .no] rfl).2.1 el (dLt_int _ _))
    have e3 := (and_t (b := tOf (eBin dLt (eIoIx 0 1) (eCallB cLen (aCons (eIoIx 0 0) (aNil))))) (e1.trans (by rw [decide_eq_true c1]))).trans e2
    by_cases c2 : i < cs.length
    · rw [decide_eq_true c2] at e3
      obtain ⟨v, hv⟩ := ix_cs cs i hi c2
      have s1 := set_ok' (i := 2) (m := eBin dIx (eIoIx 0 0) (eIoIx 0 1)) (d := .int v) (ρ := [.io 0, .fz (.int n), .no, .no, .no]) (τ := [bagD cs i x y z]) (τ1 := [bagD cs i x y z]) (by
        unfold eBin
        rw [(io_ix cs i x y z [.io 0, .fz (.int n), .no, .no, .no] rfl).1]
        simp only [Out.bind]
        rw [(io_ix cs i x y z [.io 0, .fz (.int n), .no, .no, .no] rfl).2.1]
        simp only [Out.bind, Out.of, hv])
      have s2 := put1 cs i x y z (i + 1) [.io 0, .fz (.int n), .fz (.int v), .no, .no] rfl _ (bin_int (f := dAdd) (io_ix cs i x y z _ rfl).2.1 (kk 1 _ _) (dAdd_int _ _))
      have vb : ∀ τ, eVarB 2 [.io 0, .fz (.int n), .fz (.int v), .no, .no] τ = .ok (.int v) τ := fun τ => rfl
      have ep : ∀ τ, eBin dPow (eC (.int 10)) (eC (.int 18)) [.io 0, .fz (.int n), .fz (.int v), .no, .no] τ = .ok (.int (10 ^ (18 : Int).toNat)) τ := fun τ => bin_int (f := dPow) (kk 10 _ _) (kk 18 _ _) (dPow_int ⟨by omega, by omega, by decide⟩)
      have e4 := tof_ok (bin_int (f := dGe) (vb [bagD cs (i + 1) x y z]) (ep _) (dGe_int _ _))
      by_cases c3 : v ≥ 10 ^ (18 : Int).toNat
      · rw [decide_eq_true c3] at e4
        have s3 := put2 cs (i + 1) x y z v [.io 0, .fz (.int n), .fz (.int v), .no, .no] rfl (eVar 2) rfl
        exact ⟨_, _, _, _, (if_t e3).trans ((seq_nx s1).trans ((seq_nx s2).trans ((if_t e4).trans s3))), by omega, Int.le_trans (by decide) c3⟩
      · rw [decide_eq_false c3] at e4
        have e5 := bin_int (f := dMod) (bin_int (f := dAdd) (bin_int (f := dAdd) (bin_int (f := dMul) (io_ix cs (i + 1) x y z [.io 0, .fz (.int n), .fz (.int v), .no, .no] rfl).2.2.2.1 (kk 40013 _ _) (dMul_intR (by omega))) (bin_int (f := dMod) (vb _) (kk 2147483563 _ _) (dMod_int (by omega))) (dAdd_int _ _)) (kk 7 _ _) (dAdd_int _ _)) (kk 2147483647 _ _) (dMod_int (by omega))
        have s3 := put3 cs (i + 1) x y z _ [.io 0, .fz (.int n), .fz (.int v), .no, .no] rfl _ e5
        exact ⟨_, _, _, _, (if_t e3).trans ((seq_nx s1).trans ((seq_nx s2).trans ((if_f e4).trans s3))), by omega, hx⟩
    · rw [decide_eq_false c2] at e3
      exact ⟨_, _, _, _, (if_f e3).trans rfl, hi, hx⟩
  · have e3 := and_f (b := tOf (eBin dLt (eIoIx 0 1) (eCallB cLen (aCons (eIoIx 0 0) (aNil))))) (e1.trans (by rw [decide_eq_false c1]))
    exact ⟨_, _, _, _, (if_f e3).trans rfl, hi, hx⟩
theorem take_ok (cs : List Int) (i x y z n : Int) (h1 : 1 ≤ n) (h2 : n.natAbs.log2 < 9000) (hi : 0 ≤ i) (hx : 0 ≤ x) : ∃ v i' x' y' z', m_l_take [.io 0, .fz (.int n)] [bagD cs i x y z] = .ok (.int v) [bagD cs i' x' y' z'] ∧ 0 ≤ v ∧ v < n ∧ 0 ≤ i' ∧ 0 ≤ x' := by
  obtain ⟨a, i1, x1, y1, e1, g1, g2⟩ := head_ok cs i x y z n hi hx
  obtain ⟨v, i2, x2, y2, z2, e2, g3, g4, g5, g6⟩ := tail_ok cs i1 x1 y1 z n a .no .no h1 h2 g2
  refine ⟨v, i2, x2, y2, z2, ?_, g3, g4, by omega, g6⟩
  have e : b_l_take [.io 0, .fz (.int n), .no, .no, .no] [bagD cs i x y z] = .ret (.int v) [bagD cs i2 x2 y2 z2] := by
    rw [b_take_eq]
    exact (seq_nx e1).trans e2
  show (match b_l_take [.io 0, .fz (.int n), .no, .no, .no] [bagD cs i x y z] with | .ret d τ' => Out.ok d τ' | .nx _ τ' => if false = true then .bad else .ok .non τ' | .exc e _ τ' => .exc e τ' | _ => .bad) = _
  rw [e]
end K03
set_option maxHeartbeats 400000
namespace K03
open PySem PySem.Spec L2 Hw
/-- a good bag -/
def Good (d : D) : Prop := ∃ (cs : List Int) (i x y z : Int), d = bagD cs i x y z ∧ 0 ≤ i ∧ 0 ≤ x
theorem take_good {d : D} {n : Int} (g : Good d) (h1 : 1 ≤ n) (h2 : n.natAbs.log2 < 9000) : ∃ v d', m_l_take [.io 0, .fz (.int n)] [d] = .ok (.int v) [d'] ∧ 0 ≤ v ∧ v < n ∧ Good d' := by
  obtain ⟨cs, i, x, y, z, rfl, hi, hx⟩ := g
  obtain ⟨v, i', x', y', z', e, a, b, c1, c2⟩ := take_ok cs i x y z n h1 h2 hi hx
  exact ⟨v, _, e, a, b, cs, i', x', y', z', rfl, c1, c2⟩
theorem log2_small {n : Nat} (h : n < 2 ^ 200) : n.log2 < 9000 := by
  by_cases h0 : n = 0
  · subst h0
    decide
  · have := (Nat.log2_lt h0).mpr h
    omega
theorem pick_good {d : D} {ds : List D} (g : Good d) (h1 : 1 ≤ ds.length) (h2 : ds.length < 1000000) : ∃ v d', m_l_pick [.io 0, .fz (.lst ds)] [d] = .ok v [d'] ∧ v ∈ ds ∧ Good d' := by
  obtain ⟨v, d', e, a, b, g'⟩ := take_good (n := ds.length) g (by omega) (log2_small (by omega))
  have hn : v.toNat < ds.length := by omega
  refine ⟨ds[v.toNat]'hn, d', ?_, List.getElem_mem _, g'⟩
  have hc : eCallIo m_l_take (rIo 0 (rCons (eCallB cLen (aCons (eVarB 1) (aNil))) (rNil))) [.io 0, .fz (.lst ds)] [d] = .ok (.int v) [d'] := e
  have hx : dIx (.lst ds) (.int v) = some (ds[v.toNat]'hn) := by
    show atI ds v = _
    unfold atI
    have e : ixN ds.length v = some v.toNat := by
      unfold ixN
      simp [a, b, hn]
      try omega
    simp [e, hn, List.getElem?_eq_getElem]
  have hb : b_l_pick [.io 0, .fz (.lst ds)] [d] = .ret (ds[v.toNat]'hn) [d'] := by
    refine ret_ok' ?_
    unfold eBin
    rw [varB (i := 1) (d := .lst ds) rfl]
    simp only [Out.bind]
    rw [hc]
    simp only [Out.bind, Out.of, hx]
  show (match b_l_pick [.io 0, .fz (.lst ds)] [d] with | .ret d τ' => Out.ok d τ' | .nx _ τ' => if false = true then .bad else .ok .non τ' | .exc e _ τ' => .exc e τ' | _ => .bad) = _
  rw [hb]
end K03
set_option maxHeartbeats 400000
namespace K03
open PySem PySem.Spec L2 Hw
def bagBody : SS := sSet 1 (eBin dMod (eBin dAdd (eBin dAdd (eBin dMul (eVarB 1) (eC (.int 60811))) (eBin dMod (eVarB 2) (eC (.int 2147483579)))) (eC (.int 23))) (eC (.int 2147483647)))
theorem for_nx {g : SG} {body : SS} {d : D} {ds : List D} {ρ ρ1 ρ2 : Rho} {τ τ2 : Tau} (h1 : g d ρ = some ρ1) (h2 : body ρ1 τ = .nx ρ2 τ2) : forL g body (d :: ds) ρ τ = forL g body ds ρ2 τ2 := by
  conv => lhs; unfold forL
  rw [h1]
  simp only [h2]
theorem bag_loop (d0 : Sv) : ∀ (cs : List Int) (s : Int) (c : Sv), ∃ s' c', forL (gN 2) bagBody (cs.map D.int) [d0, .fz (.int s), c] [] = .nx [d0, .fz (.int s'), c'] [] := by
  intro cs
  induction cs with
  | nil => exact fun s c => ⟨s, c, rfl⟩
  | cons v cs ih =>
    intro s c
    have e : bagBody [d0, .fz (.int s), .fz (.int v)] [] = .nx [d0, .fz (.int (((s * 60811 + v % 2147483579) + 23) % 2147483647)), .fz (.int v)] [] :=
      set_ok' (i := 1) (ρ := [d0, .fz (.int s), .fz (.int v)]) (bin_int (f := dMod) (bin_int (f := dAdd) (bin_int (f := dAdd) (bin_int (f := dMul) (varB (i := 1) (d := .int s) rfl) (kk 60811 _ _) (dMul_intR (by omega))) (bin_int (f := dMod) (varB (i := 2) (d := .int v) rfl) (kk 2147483579 _ _) (dMod_int (by omega))) (dAdd_int _ _)) (kk 23 _ _) (dAdd_int _ _)) (kk 2147483647 _ _) (dMod_int (by omega)))
    obtain ⟨s', c', h⟩ := ih (((s * 60811 + v % 2147483579) + 23) % 2147483647) (.fz (.int v))
    exact ⟨s', c', (for_nx rfl e).trans h⟩
end K03
set_option maxHeartbeats 400000
namespace K03
open PySem PySem.Spec L2 Hw
theorem bag_good (ns : List Int) : ∃ d, m_l_bag [.fz (.scr ns)] [] = .ok d [] ∧ Good d := by
  have e0 : ∀ a b : Sv, eSl dSl (eVarB 0) (oNo) (oSo (eC (.int 63))) [.fz (.scr ns), a, b] [] = .ok (.lst ((cutD ns none (some 63)).map D.int)) [] := fun _ _ => rfl
  obtain ⟨s', c', h⟩ := bag_loop (.fz (.scr ns)) (cutD ns none (some 63)) 9477 .no
  refine ⟨bagD (cutD ns none (some 63)) 0 0 s' 0, ?_, _, _, _, _, _, rfl, by omega, by omega⟩
  have e1 : sFor (iSqS (eSl dSl (eVarB 0) (oNo) (oSo (eC (.int 63))))) (gN 2) bagBody [.fz (.scr ns), .fz (.int 9477), .no] [] = .nx [.fz (.scr ns), .fz (.int s'), c'] [] := h
  have e2 : b_l_bag [.fz (.scr ns), .no, .no] [] = .ret (bagD (cutD ns none (some 63)) 0 0 s' 0) [] := by
    refine (seq_nx (ρ1 := [.fz (.scr ns), .fz (.int 9477), .no]) rfl).trans ((seq_nx e1).trans (ret_ok' ?_))
    rfl
  show (match b_l_bag [.fz (.scr ns), .no, .no] [] with | .ret d τ' => Out.ok d τ' | .nx _ τ' => if true = true then .bad else .ok .non τ' | .exc e _ τ' => .exc e τ' | _ => .bad) = _
  rw [e2]
end K03
set_option maxHeartbeats 400000
/-! Pl, part 1: the combinators, applied, with named continuations (for simp). -/
namespace Hw
open PySem PySem.Spec L2
/-! ### results -/
def Fl.sq (o : Fl) (b : SS) : Fl := match o with
  | .nx ρ τ => b ρ τ
  | .ret d τ => .ret d τ
  | .brk ρ τ => .brk ρ τ
  | .cnt ρ τ => .cnt ρ τ
  | .exc e ρ τ => .exc e ρ τ
  | .bad => .bad
/-- what a body answers -/
def Fl.out (r : Bool) (o : Fl) : Out D := match o with
  | .ret d τ => .ok d τ
  | .nx _ τ => if r = true then .bad else .ok .non τ
  | .exc e _ τ => .exc e τ
  | _ => .bad
def Out.back (τ1 : Tau) (o : Out D) : Out D := match o with
  | .ok d _ => .ok d τ1
  | .exc e _ => .exc e τ1
  | .bad => .bad
/-- a choice by a value -/
def selB {α : Type} (z : D) (x y : Out α) : Out α := match z with
  | .bl b => if b = true then x else y
  | _ => .bad
section
variable {α β : Type} {a : α} {τ τ1 τ2 : Tau} {ρ ρ1 : Rho} {e : Exc} {d : D} {c : Prop} [Decidable c]
theorem bind_ok' {f : α → Tau → Out β} : (Out.ok a τ).bind f = f a τ := (rfl)
theorem bind_exc {f : α → Tau → Out β} : (Out.exc e τ : Out α).bind f = .exc e τ := (rfl)
theorem bind_bad {f : α → Tau → Out β} : (Out.bad : Out α).bind f = .bad := (rfl)
theorem bind_ite {x y : Out α} {f : α → Tau → Out β} : (if c then x else y).bind f = if c then x.bind f else y.bind f := by split <;> rfl
theorem andS_ok {f : α → Tau → Fl} : (Out.ok a τ).andS ρ f = f a τ := (rfl)
theorem andS_exc {f : α → Tau → Fl} : (Out.exc e τ : Out α).andS ρ f = .exc e ρ τ := (rfl)
theorem andS_bad {f : α → Tau → Fl} : (Out.bad : Out α).andS ρ f = .bad := (rfl)
theorem andS_ite {x y : Out α} {f : α → Tau → Fl} : (if c then x else y).andS ρ f = if c then x.andS ρ f else y.andS ρ f := by split <;> rfl
theorem of_some {z : α} : Out.of (some z) τ = .ok z τ := (rfl)
theorem of_none : Out.of (none : Option α) τ = .bad := (rfl)
theorem of_ite {x y : Option α} : Out.of (if c then x else y) τ = if c then Out.of x τ else Out.of y τ := by split <;> rfl
theorem sq_nx {b : SS} : (Fl.nx ρ τ).sq b = b ρ τ := (rfl)
theorem sq_ret {b : SS} : (Fl.ret d τ).sq b = .ret d τ := (rfl)
theorem sq_brk {b : SS} : (Fl.brk ρ τ).sq b = .brk ρ τ := (rfl)
theorem sq_cnt {b : SS} : (Fl.cnt ρ τ).sq b = .cnt ρ τ := (rfl)
theorem sq_exc {b : SS} : (Fl.exc e ρ τ).sq b = .exc e ρ τ := (rfl)
theorem sq_bad {b : SS} : Fl.bad.sq b = .bad := (rfl)
theorem sq_ite {x y : Fl} {b : SS} : (if c then x else y).sq b = if c then x.sq b else y.sq b := by split <;> rfl
theorem out_ret {r : Bool} : (Fl.ret d τ).out r = .ok d τ := (rfl)
theorem out_nxF : (Fl.nx ρ τ).out false = .ok .non τ := (rfl)
theorem out_exc {r : Bool} : (Fl.exc e ρ τ).out r = .exc e τ := (rfl)
theorem out_ite {r : Bool} {x y : Fl} : (if c then x else y).out r = if c then x.out r else y.out r := by split <;> rfl
theorem back_ok : (Out.ok d τ2).back τ1 = .ok d τ1 := (rfl)
theorem back_exc : (Out.exc e τ2).back τ1 = .exc e τ1 := (rfl)
theorem back_ite {x y : Out D} : (if c then x else y).back τ1 = if c then x.back τ1 else y.back τ1 := by split <;> rfl
theorem selB_bl {b : Bool} {x y : Out α} : selB (.bl b) x y = if b = true then x else y := (rfl)
theorem selB_ite {z z' : D} {x y : Out α} : selB (if c then z else z') x y = if c then selB z x y else selB z' x y := by split <;> rfl
end
/-! ### continuations -/
def kBin2 (f : D → D → Option D) (y : D) : D → Tau → Out D := fun x τ1 => Out.of (f y x) τ1
theorem a_kBin2 (f : D → D → Option D) (y : D) {x : D} {τ1 : Tau} : kBin2 f y x τ1 = Out.of (f y x) τ1 := (rfl)
def kBin (f : D → D → Option D) (b : SE) (ρ : Rho) : D → Tau → Out D := fun x τ1 => (b ρ τ1).bind (kBin2 f x)
theorem a_kBin (f : D → D → Option D) (b : SE) (ρ : Rho) {x : D} {τ1 : Tau} : kBin f b ρ x τ1 = (b ρ τ1).bind (kBin2 f x) := (rfl)
def kUn (f : D → Option D) : D → Tau → Out D := fun x τ1 => Out.of (f x) τ1
theorem a_kUn (f : D → Option D) {x : D} {τ1 : Tau} : kUn f x τ1 = Out.of (f x) τ1 := (rfl)
def kIfE (a b : SE) (ρ : Rho) : Bool → Tau → Out D := fun x τ1 => if x = true then a ρ τ1 else b ρ τ1
theorem a_kIfE (a b : SE) (ρ : Rho) {x : Bool} {τ1 : Tau} : kIfE a b ρ x τ1 = if x = true then a ρ τ1 else b ρ τ1 := (rfl)
def kAndT (u : ST) (ρ : Rho) : Bool → Tau → Out Bool := fun x τ1 => if x = true then u ρ τ1 else .ok false τ1
theorem a_kAndT (u : ST) (ρ : Rho) {x : Bool} {τ1 : Tau} : kAndT u ρ x τ1 = if x = true then u ρ τ1 else .ok false τ1 := (rfl)
def kOrT (u : ST) (ρ : Rho) : Bool → Tau → Out Bool := fun x τ1 => if x = true then .ok true τ1 else u ρ τ1
theorem a_kOrT (u : ST) (ρ : Rho) {x : Bool} {τ1 : Tau} : kOrT u ρ x τ1 = if x = true then .ok true τ1 else u ρ τ1 := (rfl)
def kNotT  : Bool → Tau → Out Bool := fun x τ1 => Out.ok (!x) τ1
theorem a_kNotT  {x : Bool} {τ1 : Tau} : kNotT  x τ1 = Out.ok (!x) τ1 := (rfl)
def kCons2 (y : D) : List D → Tau → Out (List D) := fun xs τ1 => Out.ok (y :: xs) τ1
theorem a_kCons2 (y : D) {xs : List D} {τ1 : Tau} : kCons2 y xs τ1 = Out.ok (y :: xs) τ1 := (rfl)
def kCons (r : SA) (ρ : Rho) : D → Tau → Out (List D) := fun x τ1 => (r ρ τ1).bind (kCons2 x)
theorem a_kCons (r : SA) (ρ : Rho) {x : D} {τ1 : Tau} : kCons r ρ x τ1 = (r ρ τ1).bind (kCons2 x) := (rfl)
def kCallB (f : List D → Option D) : List D → Tau → Out D := fun xs τ1 => Out.of (f xs) τ1
theorem a_kCallB (f : List D → Option D) {xs : List D} {τ1 : Tau} : kCallB f xs τ1 = Out.of (f xs) τ1 := (rfl)
def kTup  : List D → Tau → Out D := fun xs τ1 => if xs.length ≤ sizeLine then Out.ok (.tup xs) τ1 else .bad
theorem a_kTup  {xs : List D} {τ1 : Tau} : kTup  xs τ1 = if xs.length ≤ sizeLine then Out.ok (.tup xs) τ1 else .bad := (rfl)
def kLst  : List D → Tau → Out D := fun xs τ1 => if xs.length ≤ sizeLine then Out.ok (.lst xs) τ1 else .bad
theorem a_kLst  {xs : List D} {τ1 : Tau} : kLst  xs τ1 = if xs.length ≤ sizeLine then Out.ok (.lst xs) τ1 else .bad := (rfl)
def kDrop (ρ : Rho) : D → Tau → Fl := fun x τ1 => Fl.nx ρ τ1
theorem a_kDrop (ρ : Rho) {x : D} {τ1 : Tau} : kDrop ρ x τ1 = Fl.nx ρ τ1 := (rfl)
def kRet  : D → Tau → Fl := fun x τ1 => Fl.ret x τ1
theorem a_kRet  {x : D} {τ1 : Tau} : kRet  x τ1 = Fl.ret x τ1 := (rfl)
def kIfS (a b : SS) (ρ : Rho) : Bool → Tau → Fl := fun x τ1 => if x = true then a ρ τ1 else b ρ τ1
theorem a_kIfS (a b : SS) (ρ : Rho) {x : Bool} {τ1 : Tau} : kIfS a b ρ x τ1 = if x = true then a ρ τ1 else b ρ τ1 := (rfl)
def kSet (i : Nat) (ρ : Rho) : D → Tau → Fl := fun x τ1 => Fl.nx (ρ.set i (.fz x)) τ1
theorem a_kSet (i : Nat) (ρ : Rho) {x : D} {τ1 : Tau} : kSet i ρ x τ1 = Fl.nx (ρ.set i (.fz x)) τ1 := (rfl)
def kSetF (i : Nat) (ρ : Rho) : D → Tau → Fl := fun x τ1 => Fl.nx (ρ.set i (.own x)) τ1
theorem a_kSetF (i : Nat) (ρ : Rho) {x : D} {τ1 : Tau} : kSetF i ρ x τ1 = Fl.nx (ρ.set i (.own x)) τ1 := (rfl)
def kFor (g : SG) (b : SS) (ρ : Rho) : List D → Tau → Fl := fun xs τ1 => forL g b xs ρ τ1
theorem a_kFor (g : SG) (b : SS) (ρ : Rho) {xs : List D} {τ1 : Tau} : kFor g b ρ xs τ1 = forL g b xs ρ τ1 := (rfl)
def kPar2 (i j : Nat) (ρ : Rho) (y : D) : D → Tau → Fl := fun x τ1 => Fl.nx ((ρ.set i (.fz y)).set j (.fz x)) τ1
theorem a_kPar2 (i j : Nat) (ρ : Rho) (y : D) {x : D} {τ1 : Tau} : kPar2 i j ρ y x τ1 = Fl.nx ((ρ.set i (.fz y)).set j (.fz x)) τ1 := (rfl)
def kPar (i j : Nat) (b : SE) (ρ : Rho) : D → Tau → Fl := fun x τ1 => (b ρ τ1).andS ρ (kPar2 i j ρ x)
theorem a_kPar (i j : Nat) (b : SE) (ρ : Rho) {x : D} {τ1 : Tau} : kPar i j b ρ x τ1 = (b ρ τ1).andS ρ (kPar2 i j ρ x) := (rfl)
def kAnd (b : SE) (ρ : Rho) : D → Tau → Out D := fun x τ1 => selB x (b ρ τ1) (.ok (.bl false) τ1)
theorem a_kAnd (b : SE) (ρ : Rho) {x : D} {τ1 : Tau} : kAnd b ρ x τ1 = selB x (b ρ τ1) (.ok (.bl false) τ1) := (rfl)
def kOr (b : SE) (ρ : Rho) : D → Tau → Out D := fun x τ1 => selB x (.ok (.bl true) τ1) (b ρ τ1)
theorem a_kOr (b : SE) (ρ : Rho) {x : D} {τ1 : Tau} : kOr b ρ x τ1 = selB x (.ok (.bl true) τ1) (b ρ τ1) := (rfl)
def kNot  : D → Tau → Out D := fun x τ1 => match x with
  | .bl b => Out.ok (.bl (!b)) τ1
  | _ => .bad
theorem a_kNot  {x : D} {τ1 : Tau} : kNot  x τ1 = match x with
  | .bl b => Out.ok (.bl (!b)) τ1
  | _ => .bad := (rfl)
def kCh3 (g : D → D → Option D) (y : D) (c : SE) (ρ : Rho) : D → Tau → Out D := fun x τ1 => selB x ((c ρ τ1).bind (kBin2 g y)) (.ok (.bl false) τ1)
theorem a_kCh3 (g : D → D → Option D) (y : D) (c : SE) (ρ : Rho) {x : D} {τ1 : Tau} : kCh3 g y c ρ x τ1 = selB x ((c ρ τ1).bind (kBin2 g y)) (.ok (.bl false) τ1) := (rfl)
def kCh2 (f g : D → D → Option D) (y : D) (c : SE) (ρ : Rho) : D → Tau → Out D := fun x τ1 => (Out.of (f y x) τ1).bind (kCh3 g x c ρ)
theorem a_kCh2 (f g : D → D → Option D) (y : D) (c : SE) (ρ : Rho) {x : D} {τ1 : Tau} : kCh2 f g y c ρ x τ1 = (Out.of (f y x) τ1).bind (kCh3 g x c ρ) := (rfl)
def kCh1 (f g : D → D → Option D) (b c : SE) (ρ : Rho) : D → Tau → Out D := fun x τ1 => (b ρ τ1).bind (kCh2 f g x c ρ)
theorem a_kCh1 (f g : D → D → Option D) (b c : SE) (ρ : Rho) {x : D} {τ1 : Tau} : kCh1 f g b c ρ x τ1 = (b ρ τ1).bind (kCh2 f g x c ρ) := (rfl)
def kSl3 (f : D → Option Int → Option Int → Option D) (d : D) (h : Option Int) : Option Int → Tau → Out D := fun l τ1 => Out.of (f d h l) τ1
theorem a_kSl3 (f : D → Option Int → Option Int → Option D) (d : D) (h : Option Int) {l : Option Int} {τ1 : Tau} : kSl3 f d h l τ1 = Out.of (f d h l) τ1 := (rfl)
def kSl2 (f : D → Option Int → Option Int → Option D) (d : D) (m : SO) (ρ : Rho) : Option Int → Tau → Out D := fun l τ1 => (m ρ τ1).bind (kSl3 f d l)
theorem a_kSl2 (f : D → Option Int → Option Int → Option D) (d : D) (m : SO) (ρ : Rho) {l : Option Int} {τ1 : Tau} : kSl2 f d m ρ l τ1 = (m ρ τ1).bind (kSl3 f d l) := (rfl)
def kSl1 (f : D → Option Int → Option Int → Option D) (ml mh : SO) (ρ : Rho) : D → Tau → Out D := fun x τ1 => (ml ρ τ1).bind (kSl2 f x mh ρ)
theorem a_kSl1 (f : D → Option Int → Option Int → Option D) (ml mh : SO) (ρ : Rho) {x : D} {τ1 : Tau} : kSl1 f ml mh ρ x τ1 = (ml ρ τ1).bind (kSl2 f x mh ρ) := (rfl)
def koSo  : D → Tau → Out (Option Int) := fun x τ1 => match x with
  | .int i => Out.ok (some i) τ1
  | _ => .bad
theorem a_koSo  {x : D} {τ1 : Tau} : koSo  x τ1 = match x with
  | .int i => Out.ok (some i) τ1
  | _ => .bad := (rfl)
def kOfL (f : D → Option (List D)) : D → Tau → Out (List D) := fun x τ1 => Out.of (f x) τ1
theorem a_kOfL (f : D → Option (List D)) {x : D} {τ1 : Tau} : kOfL f x τ1 = Out.of (f x) τ1 := (rfl)
def krC2 (y : D) : List Sv → Tau → Out (List Sv) := fun xs τ1 => Out.ok (.fz y :: xs) τ1
theorem a_krC2 (y : D) {xs : List Sv} {τ1 : Tau} : krC2 y xs τ1 = Out.ok (.fz y :: xs) τ1 := (rfl)
def krC (r : SR) (ρ : Rho) : D → Tau → Out (List Sv) := fun x τ1 => (r ρ τ1).bind (krC2 x)
theorem a_krC (r : SR) (ρ : Rho) {x : D} {τ1 : Tau} : krC r ρ x τ1 = (r ρ τ1).bind (krC2 x) := (rfl)
def krIo (j : Nat) : List Sv → Tau → Out (List Sv) := fun xs τ1 => Out.ok (.io j :: xs) τ1
theorem a_krIo (j : Nat) {xs : List Sv} {τ1 : Tau} : krIo j xs τ1 = Out.ok (.io j :: xs) τ1 := (rfl)
def krDef (ds : List D) : List Sv → Tau → Out (List Sv) := fun xs τ1 => Out.ok (xs ++ ds.map .fz) τ1
theorem a_krDef (ds : List D) {xs : List Sv} {τ1 : Tau} : krDef ds xs τ1 = Out.ok (xs ++ ds.map .fz) τ1 := (rfl)
def kCall (mf : MF) : List Sv → Tau → Out D := fun xs τ1 => if noIo xs = true then (match mf xs [] with
  | .ok d _ => .ok d τ1
  | .exc e _ => .exc e τ1
  | .bad => .bad) else .bad
theorem a_kCall (mf : MF) {xs : List Sv} {τ1 : Tau} : kCall mf xs τ1 = if noIo xs = true then (mf xs []).back τ1 else .bad := (rfl)
def kCallIo (mf : MF) : List Sv → Tau → Out D := fun xs τ1 => mf xs τ1
theorem a_kCallIo (mf : MF) {xs : List Sv} {τ1 : Tau} : kCallIo mf xs τ1 = mf xs τ1 := (rfl)
def kRaise (c : Str) (n : Nat) (fs : List Str) (vals : List D → List D) (ρ : Rho) : List D → Tau → Fl := fun xs τ1 => if xs.length = n then Fl.exc ⟨c, fs, vals xs⟩ ρ τ1 else .bad
theorem a_kRaise (c : Str) (n : Nat) (fs : List Str) (vals : List D → List D) (ρ : Rho) {xs : List D} {τ1 : Tau} : kRaise c n fs vals ρ xs τ1 = if xs.length = n then Fl.exc ⟨c, fs, vals xs⟩ ρ τ1 else .bad := (rfl)
def ktOf  : D → Tau → Out Bool := fun x τ1 => match x with
  | .bl b => Out.ok b τ1
  | _ => .bad
theorem a_ktOf  {x : D} {τ1 : Tau} : ktOf  x τ1 = match x with
  | .bl b => Out.ok b τ1
  | _ => .bad := (rfl)
def kTgt (g : SG) (ρ : Rho) : D → Tau → Fl := fun x τ1 => match g x ρ with
  | some ρ1 => Fl.nx ρ1 τ1
  | none => .bad
theorem a_kTgt (g : SG) (ρ : Rho) {x : D} {τ1 : Tau} : kTgt g ρ x τ1 = match g x ρ with
  | some ρ1 => Fl.nx ρ1 τ1
  | none => .bad := (rfl)
def kRng1  : List D → Tau → Out (List D) := fun xs τ1 => match xs with
  | [.int j] => if -4611686018427387904 ≤ j ∧ j < 4611686018427387904 then Out.ok ((List.range j.toNat).map fun (n : Nat) => .int n) τ1 else .bad
  | _ => .bad
theorem a_kRng1  {xs : List D} {τ1 : Tau} : kRng1  xs τ1 = match xs with
  | [.int j] => if -4611686018427387904 ≤ j ∧ j < 4611686018427387904 then Out.ok ((List.range j.toNat).map fun (n : Nat) => .int n) τ1 else .bad
  | _ => .bad := (rfl)
def kRng2  : List D → Tau → Out (List D) := fun xs τ1 => match xs with
  | [.int i, .int j] => if -4611686018427387904 ≤ i ∧ i < 4611686018427387904 ∧ -4611686018427387904 ≤ j ∧ j < 4611686018427387904 then Out.ok ((List.range (j - i).toNat).map fun (n : Nat) => .int (i + n)) τ1 else .bad
  | _ => .bad
theorem a_kRng2  {xs : List D} {τ1 : Tau} : kRng2  xs τ1 = match xs with
  | [.int i, .int j] => if -4611686018427387904 ≤ i ∧ i < 4611686018427387904 ∧ -4611686018427387904 ≤ j ∧ j < 4611686018427387904 then Out.ok ((List.range (j - i).toNat).map fun (n : Nat) => .int (i + n)) τ1 else .bad
  | _ => .bad := (rfl)
def kEn  : D → Tau → Out (List D) := fun x τ1 => match x with
  | .lst ds => Out.ok (ds.zipIdx.map fun p => .tup [.int p.2, p.1]) τ1
  | _ => .bad
theorem a_kEn  {x : D} {τ1 : Tau} : kEn  x τ1 = match x with
  | .lst ds => Out.ok (ds.zipIdx.map fun p => .tup [.int p.2, p.1]) τ1
  | _ => .bad := (rfl)
def kZp2 (y : D) : D → Tau → Out (List D) := fun x τ1 => match y, x with
  | .lst ds, .lst es => Out.ok ((ds.zip es).map fun p => .tup [p.1, p.2]) τ1
  | _, _ => .bad
theorem a_kZp2 (y : D) {x : D} {τ1 : Tau} : kZp2 y x τ1 = match y, x with
  | .lst ds, .lst es => Out.ok ((ds.zip es).map fun p => .tup [p.1, p.2]) τ1
  | _, _ => .bad := (rfl)
def kZp (b : SE) (ρ : Rho) : D → Tau → Out (List D) := fun x τ1 => (b ρ τ1).bind (kZp2 x)
theorem a_kZp (b : SE) (ρ : Rho) {x : D} {τ1 : Tau} : kZp b ρ x τ1 = (b ρ τ1).bind (kZp2 x) := (rfl)
def kiLst  : D → Tau → Out (List D) := fun x τ1 => match x with
  | .lst ds => Out.ok ds τ1
  | _ => .bad
theorem a_kiLst  {x : D} {τ1 : Tau} : kiLst  x τ1 = match x with
  | .lst ds => Out.ok ds τ1
  | _ => .bad := (rfl)
def kLc2  : List D → Tau → Out D := fun xs τ1 => if xs.length ≤ sizeLine then Out.ok (.lst xs) τ1 else .bad
theorem a_kLc2  {xs : List D} {τ1 : Tau} : kLc2  xs τ1 = if xs.length ≤ sizeLine then Out.ok (.lst xs) τ1 else .bad := (rfl)
def kLc (g : SG) (t : ST) (m : SE) (ρ : Rho) (vs : List Nat) : List D → Tau → Out D := fun xs τ1 => (lcL g t m (wipeR ρ vs) xs τ1).bind kLc2
theorem a_kLc (g : SG) (t : ST) (m : SE) (ρ : Rho) (vs : List Nat) {xs : List D} {τ1 : Tau} : kLc g t m ρ vs xs τ1 = (lcL g t m (wipeR ρ vs) xs τ1).bind kLc2 := (rfl)
def kMut (i : Nat) (f : D → List D → Option D) (ρ : Rho) : List D → Tau → Fl := fun xs τ1 => match getC i ρ τ1 with
  | none => Fl.bad
  | some c => match f c xs with
    | none => .bad
    | some c1 => .nx (setC i c1 ρ τ1).1 (setC i c1 ρ τ1).2
theorem a_kMut (i : Nat) (f : D → List D → Option D) (ρ : Rho) {xs : List D} {τ1 : Tau} : kMut i f ρ xs τ1 = match getC i ρ τ1 with
  | none => Fl.bad
  | some c => match f c xs with
    | none => .bad
    | some c1 => .nx (setC i c1 ρ τ1).1 (setC i c1 ρ τ1).2 := (rfl)
def kPut2 (i : Nat) (ρ : Rho) (d : D) : D → Tau → Fl := fun x τ1 => match getC i ρ τ1 with
  | some (.lst ds) => match x with
    | .int n => match ixN ds.length n with
      | some l => Fl.nx (setC i (.lst (ds.set l d)) ρ τ1).1 (setC i (.lst (ds.set l d)) ρ τ1).2
      | none => .bad
    | _ => .bad
  | _ => .bad
theorem a_kPut2 (i : Nat) (ρ : Rho) (d : D) {x : D} {τ1 : Tau} : kPut2 i ρ d x τ1 = match getC i ρ τ1 with
  | some (.lst ds) => match x with
    | .int n => match ixN ds.length n with
      | some l => Fl.nx (setC i (.lst (ds.set l d)) ρ τ1).1 (setC i (.lst (ds.set l d)) ρ τ1).2
      | none => .bad
    | _ => .bad
  | _ => .bad := (rfl)
def kPut (i : Nat) (ix : SE) (ρ : Rho) : D → Tau → Fl := fun x τ1 => match getC i ρ τ1 with
  | none => Fl.bad
  | some _ => (ix ρ τ1).andS ρ (kPut2 i ρ x)
theorem a_kPut (i : Nat) (ix : SE) (ρ : Rho) {x : D} {τ1 : Tau} : kPut i ix ρ x τ1 = match getC i ρ τ1 with
  | none => Fl.bad
  | some _ => (ix ρ τ1).andS ρ (kPut2 i ρ x) := (rfl)
def kDPut2 (i : Nat) (ρ : Rho) (d : D) : D → Tau → Fl := fun x τ1 => match getC i ρ τ1 with
  | some (.dct t ks vs) => if isKey t x = true ∧ ks.length < sizeLine ∧ ks.length = vs.length then Fl.nx (setC i (putD t ks vs x d) ρ τ1).1 (setC i (putD t ks vs x d) ρ τ1).2 else .bad
  | _ => .bad
theorem a_kDPut2 (i : Nat) (ρ : Rho) (d : D) {x : D} {τ1 : Tau} : kDPut2 i ρ d x τ1 = match getC i ρ τ1 with
  | some (.dct t ks vs) => if isKey t x = true ∧ ks.length < sizeLine ∧ ks.length = vs.length then Fl.nx (setC i (putD t ks vs x d) ρ τ1).1 (setC i (putD t ks vs x d) ρ τ1).2 else .bad
  | _ => .bad := (rfl)
def kDPut (i : Nat) (ix : SE) (ρ : Rho) : D → Tau → Fl := fun x τ1 => match getC i ρ τ1 with
  | none => Fl.bad
  | some _ => (ix ρ τ1).andS ρ (kDPut2 i ρ x)
theorem a_kDPut (i : Nat) (ix : SE) (ρ : Rho) {x : D} {τ1 : Tau} : kDPut i ix ρ x τ1 = match getC i ρ τ1 with
  | none => Fl.bad
  | some _ => (ix ρ τ1).andS ρ (kDPut2 i ρ x) := (rfl)
def kFldS (i : Nat) (c f : Str) (ρ : Rho) : D → Tau → Fl := fun x τ1 => match getC i ρ τ1 with
  | some y => match dPutF c f y x with
    | some z => Fl.nx (setC i z ρ τ1).1 (setC i z ρ τ1).2
    | none => .bad
  | none => .bad
theorem a_kFldS (i : Nat) (c f : Str) (ρ : Rho) {x : D} {τ1 : Tau} : kFldS i c f ρ x τ1 = match getC i ρ τ1 with
  | some y => match dPutF c f y x with
    | some z => Fl.nx (setC i z ρ τ1).1 (setC i z ρ τ1).2
    | none => .bad
  | none => .bad := (rfl)
def kMake (c : Str) (mf : MF) : List Sv → Tau → Out D := fun xs τ1 => if noIo xs = true then (match mf (.io 0 :: xs) [.ins c [] []] with
  | .ok .non [d] => Out.ok d τ1
  | .exc e [_] => .exc e τ1
  | _ => .bad) else .bad
theorem a_kMake (c : Str) (mf : MF) {xs : List Sv} {τ1 : Tau} : kMake c mf xs τ1 = if noIo xs = true then (match mf (.io 0 :: xs) [.ins c [] []] with
  | .ok .non [d] => Out.ok d τ1
  | .exc e [_] => .exc e τ1
  | _ => .bad) else .bad := (rfl)
def kLenO (c : Str) (mf : MF) : D → Tau → Out D := fun x τ1 => match x with
  | .ins c' fs ds => if c' = c then (match mf [.fz x] [] with
      | .ok (.int n) [] => if 0 ≤ n ∧ n < 9223372036854775808 then Out.ok (.int n) τ1 else .bad
      | _ => .bad) else .bad
  | _ => .bad
theorem a_kLenO (c : Str) (mf : MF) {x : D} {τ1 : Tau} : kLenO c mf x τ1 = match x with
  | .ins c' fs ds => if c' = c then (match mf [.fz x] [] with
      | .ok (.int n) [] => if 0 ≤ n ∧ n < 9223372036854775808 then Out.ok (.int n) τ1 else .bad
      | _ => .bad) else .bad
  | _ => .bad := (rfl)
end Hw
set_option maxHeartbeats 400000
/-! Pl, part 2: slots, targets, loops, applied. -/
namespace Hw
open PySem PySem.Spec L2
section
variable {ρ : Rho} {τ : Tau} {a b m : SE} {t u : ST} {i : Nat}
theorem a_runB {r : Bool} {N : Nat} {mb : SS} : runB r N mb ρ τ = (mb (ρ ++ List.replicate (N - ρ.length) .no) τ).out r := (rfl)
theorem a_C {d : D} : eC d ρ τ = .ok d τ := (rfl)
theorem a_Bin {f : D → D → Option D} : eBin f a b ρ τ = (a ρ τ).bind (kBin f b ρ) := (rfl)
theorem a_Un {f : D → Option D} : eUn f a ρ τ = (a ρ τ).bind (kUn f) := (rfl)
theorem a_If  : eIf t a b ρ τ = (t ρ τ).bind (kIfE a b ρ) := (rfl)
theorem a_tAnd  : Hw.tAnd t u ρ τ = (t ρ τ).bind (kAndT u ρ) := (rfl)
theorem a_tOr  : Hw.tOr t u ρ τ = (t ρ τ).bind (kOrT u ρ) := (rfl)
theorem a_tNot  : Hw.tNot t ρ τ = (t ρ τ).bind kNotT := (rfl)
theorem a_tYes  : Hw.tYes ρ τ = .ok true τ := (rfl)
theorem a_Nil  : aNil ρ τ = .ok [] τ := (rfl)
theorem a_Cons {r : SA} : aCons a r ρ τ = (a ρ τ).bind (kCons r ρ) := (rfl)
theorem a_CallB {f : List D → Option D} {r : SA} : eCallB f r ρ τ = (r ρ τ).bind (kCallB f) := (rfl)
theorem a_Tup {r : SA} : eTup r ρ τ = (r ρ τ).bind kTup := (rfl)
theorem a_Lst {r : SA} : eLst r ρ τ = (r ρ τ).bind kLst := (rfl)
theorem a_Next  : sNext ρ τ = .nx ρ τ := (rfl)
theorem a_Brk  : sBrk ρ τ = .brk ρ τ := (rfl)
theorem a_Cnt  : sCnt ρ τ = .cnt ρ τ := (rfl)
theorem a_Bad  : sBad ρ τ = .bad := (rfl)
theorem a_Seq {x y : SS} : sSeq x y ρ τ = (x ρ τ).sq y := (rfl)
theorem a_Drop  : sDrop m ρ τ = (m ρ τ).andS ρ (kDrop ρ) := (rfl)
theorem a_Ret  : sRet m ρ τ = (m ρ τ).andS ρ kRet := (rfl)
theorem a_sIf {x y : SS} : sIf t x y ρ τ = (t ρ τ).andS ρ (kIfS x y ρ) := (rfl)
theorem a_Set  : sSet i m ρ τ = (m ρ τ).andS ρ (kSet i ρ) := (rfl)
theorem a_SetF  : sSetF i m ρ τ = (m ρ τ).andS ρ (kSetF i ρ) := (rfl)
theorem a_Frz {x : SS} : sFrz i x ρ τ = x (frzR i ρ) τ := (rfl)
theorem a_For {mi : SI} {g : SG} {x : SS} : sFor mi g x ρ τ = (mi ρ τ).andS ρ (kFor g x ρ) := (rfl)
theorem a_Par {j : Nat} : sPar i j a b ρ τ = (a ρ τ).andS ρ (kPar i j b ρ) := (rfl)
theorem a_AndS  : eAnd a b ρ τ = (a ρ τ).bind (kAnd b ρ) := by
  show (a ρ τ).bind _ = _
  congr 1
  funext x τ1
  cases x with
  | bl b => cases b <;> rfl
  | _ => rfl
theorem a_OrS  : eOr a b ρ τ = (a ρ τ).bind (kOr b ρ) := by
  show (a ρ τ).bind _ = _
  congr 1
  funext x τ1
  cases x with
  | bl b => cases b <;> rfl
  | _ => rfl
theorem a_Not  : eNot a ρ τ = (a ρ τ).bind kNot := (rfl)
theorem a_ChainS {f g : D → D → Option D} {c : SE} : eChain f g a b c ρ τ = (a ρ τ).bind (kCh1 f g b c ρ) := by
  show (a ρ τ).bind _ = _
  congr 1
  funext x τ1
  show (b ρ τ1).bind _ = (b ρ τ1).bind _
  congr 1
  funext y τ2
  show (Out.of (f x y) τ2).bind _ = (Out.of (f x y) τ2).bind _
  congr 1
  funext z τ3
  cases z with
  | bl b => cases b <;> rfl
  | _ => rfl
theorem a_Sl {f : D → Option Int → Option Int → Option D} {ml mh : SO} : eSl f m ml mh ρ τ = (m ρ τ).bind (kSl1 f ml mh ρ) := (rfl)
theorem a_oNo  : oNo ρ τ = .ok none τ := (rfl)
theorem a_oSo  : oSo m ρ τ = (m ρ τ).bind koSo := (rfl)
theorem a_iSqS  : iSqS m ρ τ = (m ρ τ).bind (kOfL sqS) := (rfl)
theorem a_iEnS  : iEnS m ρ τ = (m ρ τ).bind (kOfL enS) := (rfl)
theorem a_rNil  : rNil ρ τ = .ok [] τ := (rfl)
theorem a_rCons {r : SR} : rCons a r ρ τ = (a ρ τ).bind (krC r ρ) := (rfl)
theorem a_rDef {r : SR} {ds : List D} : rDef r ds ρ τ = (r ρ τ).bind (krDef ds) := (rfl)
theorem a_rIo {r : SR} : rIo i r ρ τ = match ρ[i]? with
  | some (.io j) => (r ρ τ).bind (krIo j)
  | _ => .bad := (rfl)
theorem a_CallIo {mf : MF} {r : SR} : eCallIo mf r ρ τ = (r ρ τ).bind (kCallIo mf) := (rfl)
theorem a_Call {mf : MF} {r : SR} : eCall mf r ρ τ = (r ρ τ).bind (kCall mf) := (rfl)
theorem a_Raise {c : Str} {n : Nat} {fs : List Str} {vals : List D → List D} {m : SA} : sRaise c n fs vals m ρ τ = (m ρ τ).andS ρ (kRaise c n fs vals ρ) := (rfl)
theorem a_Var  : eVar i ρ τ = match ρ[i]? with
  | some (.fz d) => .ok d τ
  | _ => .bad := (rfl)
theorem a_VarB  : eVarB i ρ τ = match ρ[i]? with
  | some (.fz d) => .ok d τ
  | some (.own d) => .ok d τ
  | _ => .bad := (rfl)
theorem a_tOf  : tOf m ρ τ = (m ρ τ).bind ktOf := (rfl)
theorem a_Tgt {g : SG} : sTgt g m ρ τ = (m ρ τ).andS ρ (kTgt g ρ) := (rfl)
theorem a_RetOwn  : sRetOwn i ρ τ = match ρ[i]? with
  | some (.own d) => .ret d τ
  | _ => .bad := (rfl)
theorem a_IoIx {n : Int} : eIoIx i n ρ τ = match ρ[i]? with
  | some (.io j) => match τ[j]? with
    | some (.lst ds) => .of (atI ds n) τ
    | _ => .bad
  | _ => .bad := (rfl)
theorem a_Lend {x : SS} : sLend i x ρ τ = match ρ[i]? with
  | some (.own d) => match x (ρ.set i (.io τ.length)) (τ ++ [d]) with
    | .ret d' τ' => if τ'.length = τ.length + 1 then .ret d' (τ'.take τ.length) else .bad
    | _ => .bad
  | _ => .bad := (rfl)
theorem a_iRng1 {r : SA} : iRng1 r ρ τ = (r ρ τ).bind kRng1 := (rfl)
theorem a_iRng2 {r : SA} : iRng2 r ρ τ = (r ρ τ).bind kRng2 := (rfl)
theorem a_iEn  : iEn m ρ τ = (m ρ τ).bind kEn := (rfl)
theorem a_iZp  : iZp a b ρ τ = (a ρ τ).bind (kZp b ρ) := (rfl)
theorem a_iLst  : iLst m ρ τ = (m ρ τ).bind kiLst := (rfl)
theorem a_Lc {mi : SI} {g : SG} {vs : List Nat} : eLc mi g vs t m ρ τ = (mi ρ τ).bind (kLc g t m ρ vs) := (rfl)
theorem a_Mut {f : D → List D → Option D} {r : SA} : sMut i f r ρ τ = match getC i ρ τ with
  | none => .bad
  | some c0 => if isLst c0 = true then (r ρ τ).andS ρ (kMut i f ρ) else .bad := (rfl)
theorem a_Put {ix : SE} : sPut i ix m ρ τ = (m ρ τ).andS ρ (kPut i ix ρ) := (rfl)
theorem a_DPut {ix : SE} : sDPut' i ix m ρ τ = (m ρ τ).andS ρ (kDPut i ix ρ) := (rfl)
theorem a_FldS {c f : Str} : sFldS i c f m ρ τ = (m ρ τ).andS ρ (kFldS i c f ρ) := (rfl)
theorem a_Tried {tab : List (Str × List Str)} {w1 w2 : Str} : eTried tab w1 w2 m ρ τ = match m ρ τ with
  | .ok d τ1 => .ok (.tup [.str w1, d]) τ1
  | .exc e τ1 => match tab.lookup e.c with
    | some fs => match tellD e fs with
      | some ds => if ds.length < 1000 then .ok (.tup (.str w2 :: ds)) τ1 else .bad
      | none => .bad
    | none => .bad
  | .bad => .bad := (rfl)
theorem a_Make {c : Str} {mf : MF} {r : SR} : eMake c mf r ρ τ = (r ρ τ).bind (kMake c mf) := (rfl)
theorem a_LenO {c : Str} {mf : MF} : eLenO c mf m ρ τ = (m ρ τ).bind (kLenO c mf) := (rfl)
theorem a_ForD0  : sForD0 i ρ τ = match ρ[i]? with
  | some (.fz (.dct _ [] [])) => .nx ρ τ
  | _ => .bad := (rfl)
theorem a_getC  : getC i ρ τ = match ρ[i]? with
  | some (.own d) => some d
  | some (.io j) => τ[j]?
  | _ => none := (rfl)
theorem a_setC {d : D} : setC i d ρ τ = match ρ[i]? with
  | some (.own _) => (ρ.set i (.own d), τ)
  | some (.io j) => (ρ, τ.set j d)
  | _ => (ρ, τ) := (rfl)
theorem a_frzR : frzR i ρ = match ρ[i]? with
  | some (.own d) => ρ.set i (.fz d)
  | _ => ρ := (rfl)
/-! targets -/
theorem g_N {d : D} : gN i d ρ = some (ρ.set i (.fz d)) := (rfl)
theorem g_Tt {g : SGs} {ds : List D} : gT g (.tup ds) ρ = g ds ρ := (rfl)
theorem g_Tl {g : SGs} {ds : List D} : gT g (.lst ds) ρ = g ds ρ := (rfl)
theorem g_nil : gsNil [] ρ = some ρ := (rfl)
theorem g_cons {g : SG} {r : SGs} {d : D} {ds : List D} : gsCons g r (d :: ds) ρ = match g d ρ with
  | some ρ1 => r ds ρ1
  | none => none := (rfl)
/-! loops -/
theorem for_nil {g : SG} {x : SS} : forL g x [] ρ τ = .nx ρ τ := (rfl)
def Fl.lp (o : Fl) (g : SG) (x : SS) (ds : List D) : Fl := match o with
  | .nx ρ τ => forL g x ds ρ τ
  | .cnt ρ τ => forL g x ds ρ τ
  | .brk ρ τ => .nx ρ τ
  | .ret d τ => .ret d τ
  | .exc e ρ τ => .exc e ρ τ
  | .bad => .bad
theorem for_cons {g : SG} {x : SS} {d : D} {ds : List D} : forL g x (d :: ds) ρ τ = match g d ρ with
  | none => .bad
  | some ρ1 => (x ρ1 τ).lp g x ds := (rfl)
theorem lp_nx {g : SG} {x : SS} {ds : List D} : (Fl.nx ρ τ).lp g x ds = forL g x ds ρ τ := (rfl)
theorem lp_cnt {g : SG} {x : SS} {ds : List D} : (Fl.cnt ρ τ).lp g x ds = forL g x ds ρ τ := (rfl)
theorem lp_brk {g : SG} {x : SS} {ds : List D} : (Fl.brk ρ τ).lp g x ds = .nx ρ τ := (rfl)
theorem lp_ret {g : SG} {x : SS} {ds : List D} {d : D} : (Fl.ret d τ).lp g x ds = .ret d τ := (rfl)
theorem lp_exc {g : SG} {x : SS} {ds : List D} {e : Exc} : (Fl.exc e ρ τ).lp g x ds = .exc e ρ τ := (rfl)
theorem lp_ite {c : Prop} [Decidable c] {o o' : Fl} {g : SG} {x : SS} {ds : List D} : (if c then o else o').lp g x ds = if c then o.lp g x ds else o'.lp g x ds := by split <;> rfl
/-- a loop by what stands in front of each turn -/
theorem for_rule {g : SG} {x : SS} {ds : List D} (P : List D → Rho → Tau → Prop) (Q : Fl → Prop) (h0 : P ds ρ τ)
    (hs : ∀ d rest ρ τ, P (d :: rest) ρ τ → ∃ ρ1, g d ρ = some ρ1 ∧ match x ρ1 τ with
      | .nx ρ2 τ2 => P rest ρ2 τ2
      | .cnt ρ2 τ2 => P rest ρ2 τ2
      | .brk ρ2 τ2 => Q (.nx ρ2 τ2)
      | .ret d τ2 => Q (.ret d τ2)
      | .exc e ρ2 τ2 => Q (.exc e ρ2 τ2)
      | .bad => False)
    (hn : ∀ ρ τ, P [] ρ τ → Q (.nx ρ τ)) : Q (forL g x ds ρ τ) := by
  induction ds generalizing ρ τ with
  | nil => exact hn ρ τ h0
  | cons d ds ih =>
    obtain ⟨ρ1, e1, h⟩ := hs d ds ρ τ h0
    rw [for_cons, e1]
    show Q ((x ρ1 τ).lp g x ds)
    cases hx : x ρ1 τ with
    | nx ρ2 τ2 => rw [hx] at h; exact ih h
    | cnt ρ2 τ2 => rw [hx] at h; exact ih h
    | brk ρ2 τ2 => rw [hx] at h; exact h
    | ret d τ2 => rw [hx] at h; exact h
    | exc e ρ2 τ2 => rw [hx] at h; exact h
    | bad => rw [hx] at h; exact h.elim
/-- a comprehension whose parts are what they are at each item -/
theorem lc_map {α : Type} {g : SG} {e : α → D} (f : α → D) : ∀ {xs : List α}, (∀ x ∈ xs, ∃ ρ1, g (e x) ρ = some ρ1 ∧ m ρ1 τ = .ok (f x) τ) → lcL g tYes m ρ (xs.map e) τ = .ok (xs.map f) τ
  | [], _ => rfl
  | x :: xs, h => by
    obtain ⟨ρ1, h1, h2⟩ := h x (List.mem_cons_self ..)
    have ih := lc_map (xs := xs) f fun y hy => h y (List.mem_cons_of_mem _ hy)
    simp only [List.map_cons, lcL, h1, a_tYes, noX, bind_ok', h2, if_pos, ih]
theorem lc_filter {α : Type} {g : SG} {e : α → D} (p : α → Bool) (f : α → D) : ∀ {xs : List α}, (∀ x ∈ xs, ∃ ρ1, g (e x) ρ = some ρ1 ∧ t ρ1 τ = .ok (p x) τ ∧ (p x = true → m ρ1 τ = .ok (f x) τ)) → lcL g t m ρ (xs.map e) τ = .ok ((xs.filter p).map f) τ
  | [], _ => rfl
  | x :: xs, h => by
    obtain ⟨ρ1, h1, h2, h3⟩ := h x (List.mem_cons_self ..)
    have ih := lc_filter (xs := xs) p f fun y hy => h y (List.mem_cons_of_mem _ hy)
    by_cases hp : p x = true
    · simp only [List.map_cons, lcL, h1, noX, h2, bind_ok', hp, h3 hp, if_pos, ih, List.filter_cons]
    · have hp' : p x = false := by simpa using hp
      simp only [List.map_cons, lcL, h1, noX, h2, bind_ok', hp', ih, List.filter_cons, Bool.false_eq_true, if_false]
end
end Hw
set_option maxHeartbeats 400000
/-! Pl, part 3: plain data, its ==; the operators by cases. -/
namespace Hw
open PySem PySem.Spec L2
noncomputable instance decD : DecidableEq D := fun _ _ => Classical.propDecidable _
/-- no bools, no dicts, no objects; depth at most n -/
def plB : Nat → D → Bool
  | _, .non => true
  | _, .int _ => true
  | _, .str x => PyData.strOk x
  | n + 1, .lst ds => ds.all (plB n)
  | n + 1, .tup ds => ds.all (plB n)
  | _, _ => false
theorem isPds_all : ∀ {ds : List D}, isPds ds = ds.all isPd
  | [] => rfl
  | d :: ds => by rw [isPds, isPds_all, List.all_cons]
theorem pds_map : ∀ {ds : List D}, pds ds = ds.map pd
  | [] => rfl
  | d :: ds => by rw [pds, pds_map, List.map_cons]
theorem plB_pd : ∀ (n : Nat) (d : D), plB n d = true → isPd d = true ∧ (pd d).canLay0 = true ∧ (pd d).depth ≤ n := by
  intro n
  induction n with
  | zero =>
    intro d h
    cases d with
    | non => exact ⟨rfl, rfl, Nat.le_refl _⟩
    | int i => exact ⟨rfl, rfl, Nat.le_refl _⟩
    | str x => exact ⟨rfl, h, Nat.le_refl _⟩
    | _ => cases h
  | succ n ih =>
    have two : ∀ ds : List D, ds.all (plB n) = true → isPds ds = true ∧ PyData.canLayAll0 (pds ds) = true ∧ PyData.depthAll (pds ds) ≤ n := by
      intro ds
      induction ds with
      | nil => intro _; exact ⟨rfl, rfl, Nat.zero_le _⟩
      | cons d ds ihd =>
        intro h
        rw [List.all_cons, Bool.and_eq_true] at h
        obtain ⟨a1, a2, a3⟩ := ih d h.1
        obtain ⟨b1, b2, b3⟩ := ihd h.2
        refine ⟨?_, ?_, ?_⟩
        · rw [isPds, a1, b1]; rfl
        · rw [pds, PyData.canLayAll0, a2, b2]; rfl
        · rw [pds, PyData.depthAll]; exact Nat.max_le.mpr ⟨a3, b3⟩
    intro d h
    cases d with
    | non => exact ⟨rfl, rfl, Nat.zero_le _⟩
    | int i => exact ⟨rfl, rfl, Nat.zero_le _⟩
    | str x => exact ⟨rfl, h, Nat.zero_le _⟩
    | lst ds =>
      obtain ⟨a, b, c⟩ := two ds h
      exact ⟨a, b, Nat.succ_le_succ c⟩
    | tup ds =>
      obtain ⟨a, b, c⟩ := two ds h
      exact ⟨a, b, Nat.succ_le_succ c⟩
    | _ => cases h
theorem plB_ok {n : Nat} {d : D} (h : plB n d = true) (hn : n ≤ 64) : okPd d = true := by
  obtain ⟨a, b, c⟩ := plB_pd n d h
  unfold okPd SeqAt.shaped
  rw [a, b, Bool.true_and, Bool.true_and]
  exact decide_eq_true (Nat.le_trans c hn)
theorem plB_eqv : ∀ (n : Nat) (d e : D) (m : Nat), plB n d = true → plB m e = true → PyData.eqv (pd d) (pd e) = decide (d = e) := by
  intro n
  induction n with
  | zero =>
    intro d e m h g
    cases d with
    | non => cases e <;> first | (cases m <;> cases g; done) | (simp [pd, PyData.eqv]; done) | (simp only [pd, PyData.eqv]; rw [Bool.eq_iff_iff]; simp; done)
    | int i =>
      cases e <;> first | (cases m <;> cases g; done) | (simp [pd, PyData.eqv]; done) | (simp only [pd, PyData.eqv]; rw [Bool.eq_iff_iff]; simp; done)
    | str x =>
      cases e <;> first | (cases m <;> cases g; done) | (simp [pd, PyData.eqv]; done) | (simp only [pd, PyData.eqv]; rw [Bool.eq_iff_iff]; simp; done)
    | _ => cases h
  | succ n ih =>
    have two : ∀ (ds es : List D) (m : Nat), ds.all (plB n) = true → es.all (plB m) = true → PyData.eqvAll (pds ds) (pds es) = decide (ds = es) := by
      intro ds
      induction ds with
      | nil =>
        intro es m _ _
        cases es with
        | nil => simp [pds, PyData.eqvAll]
        | cons => simp [pds, PyData.eqvAll]
      | cons d ds ihd =>
        intro es m h g
        cases es with
        | nil => simp [pds, PyData.eqvAll]
        | cons e es =>
          rw [List.all_cons, Bool.and_eq_true] at h g
          rw [pds, pds, PyData.eqvAll, ih d e m h.1 g.1, ihd es m h.2 g.2]
          simp
    intro d e m h g
    cases d with
    | non => cases e <;> first | (cases m <;> cases g; done) | (simp [pd, PyData.eqv]; done) | (simp only [pd, PyData.eqv]; rw [Bool.eq_iff_iff]; simp; done)
    | int i =>
      cases e <;> first | (cases m <;> cases g; done) | (simp [pd, PyData.eqv]; done) | (simp only [pd, PyData.eqv]; rw [Bool.eq_iff_iff]; simp; done)
    | str x =>
      cases e <;> first | (cases m <;> cases g; done) | (simp [pd, PyData.eqv]; done) | (simp only [pd, PyData.eqv]; rw [Bool.eq_iff_iff]; simp; done)
    | lst ds =>
      cases e with
      | lst es =>
        cases m with
        | zero => cases g
        | succ m =>
          show PyData.eqvAll (pds ds) (pds es) = _
          rw [two ds es m h g]; simp
      | _ => first | (cases m <;> cases g; done) | (simp [pd, PyData.eqv]; done) | (simp only [pd, PyData.eqv]; rw [Bool.eq_iff_iff]; simp; done)
    | tup ds =>
      cases e with
      | tup es =>
        cases m with
        | zero => cases g
        | succ m =>
          show PyData.eqvAll (pds ds) (pds es) = _
          rw [two ds es m h g]; simp
      | _ => first | (cases m <;> cases g; done) | (simp [pd, PyData.eqv]; done) | (simp only [pd, PyData.eqv]; rw [Bool.eq_iff_iff]; simp; done)
    | _ => cases h

class Pln (n : Nat) (d : D) : Prop where
  ok : plB n d = true
class PlnL (n : Nat) (ds : List D) : Prop where
  ok : ds.all (plB n) = true
class StrOk (x : Str) : Prop where
  ok : PyData.strOk x = true
section
variable {n : Nat} {d : D} {ds es : List D}
instance : Pln n .non := ⟨by cases n <;> rfl⟩
instance {i : Int} : Pln n (.int i) := ⟨by cases n <;> rfl⟩
instance {x : Str} [h : StrOk x] : Pln n (.str x) := ⟨by cases n <;> exact h.ok⟩
instance [h : PlnL n ds] : Pln (n + 1) (.lst ds) := ⟨h.ok⟩
instance [h : PlnL n ds] : Pln (n + 1) (.tup ds) := ⟨h.ok⟩
instance : PlnL n [] := ⟨rfl⟩
instance [h : Pln n d] [g : PlnL n ds] : PlnL n (d :: ds) := ⟨by rw [List.all_cons, h.ok, g.ok]; rfl⟩
instance [h : PlnL n ds] [g : PlnL n es] : PlnL n (ds ++ es) := ⟨by rw [List.all_append, h.ok, g.ok]; rfl⟩
instance {α : Type} {f : α → D} {xs : List α} [h : ∀ x, Pln n (f x)] : PlnL n (xs.map f) := ⟨by
  rw [List.all_map]
  exact List.all_eq_true.mpr fun x _ => (h x).ok⟩
instance {k : Nat} [h : Pln n d] : PlnL n (List.replicate k d) := ⟨List.all_eq_true.mpr fun x hx => by rw [List.eq_of_mem_replicate hx]; exact h.ok⟩
instance {k : Nat} [h : PlnL n ds] : PlnL n (ds.take k) := ⟨List.all_eq_true.mpr fun x hx => List.all_eq_true.mp h.ok x (List.mem_of_mem_take hx)⟩
instance {k : Nat} [h : PlnL n ds] : PlnL n (ds.drop k) := ⟨List.all_eq_true.mpr fun x hx => List.all_eq_true.mp h.ok x (List.mem_of_mem_drop hx)⟩
theorem dEq_pl {d e : D} [h : Pln 64 d] [g : Pln 64 e] : dEq d e = some (.bl (decide (d = e))) := by
  unfold dEq
  rw [plB_ok h.ok (Nat.le_refl _), plB_ok g.ok (Nat.le_refl _), Bool.and_self, if_pos rfl, plB_eqv _ _ _ _ h.ok g.ok]
theorem dNe_pl {d e : D} [h : Pln 64 d] [g : Pln 64 e] : dNe d e = some (.bl (!decide (d = e))) := by
  unfold dNe
  rw [plB_ok h.ok (Nat.le_refl _), plB_ok g.ok (Nat.le_refl _), Bool.and_self, if_pos rfl, plB_eqv _ _ _ _ h.ok g.ok]
theorem dIn_pl {d : D} {ds : List D} [h : Pln 63 d] [g : PlnL 63 ds] : dIn d (.lst ds) = some (.bl (decide (d ∈ ds))) := by
  have g2 : plB 64 (.lst ds) = true := g.ok
  unfold dIn dInB
  simp only []
  rw [plB_ok h.ok (by decide), plB_ok g2 (Nat.le_refl _), Bool.and_self, if_pos rfl]
  have e : (ds.any fun z => PyData.eqv (pd z) (pd d)) = decide (d ∈ ds) := by
    have g' := List.all_eq_true.mp g.ok
    rw [Bool.eq_iff_iff, List.any_eq_true, decide_eq_true_iff]
    constructor
    · rintro ⟨z, hz, e⟩
      rw [plB_eqv _ _ _ _ (g' z hz) h.ok] at e
      exact (of_decide_eq_true e) ▸ hz
    · intro hd
      exact ⟨d, hd, by rw [plB_eqv _ _ _ _ h.ok h.ok]; exact decide_eq_true rfl⟩
  rw [e]
  rfl
theorem dNotIn_pl {d : D} {ds : List D} [h : Pln 63 d] [g : PlnL 63 ds] : dNotIn d (.lst ds) = some (.bl (!decide (d ∈ ds))) := by
  have := @dIn_pl d ds h g
  unfold dIn at this
  obtain ⟨b, h1, h2⟩ := Option.map_eq_some_iff.mp this
  unfold dNotIn
  rw [h1]
  injection h2 with h2
  rw [h2]
  rfl
theorem dEq_bl {b c : Bool} : dEq (.bl b) (.bl c) = some (.bl (b == c)) := (rfl)
theorem dNe_bl {b c : Bool} : dNe (.bl b) (.bl c) = some (.bl (!(b == c))) := (rfl)
end
/-! ### the operators -/
section
variable {i j : Int}
theorem dLt_i : dLt (.int i) (.int j) = some (.bl (decide (i < j))) := (rfl)
theorem dLe_i : dLe (.int i) (.int j) = some (.bl (decide (i ≤ j))) := (rfl)
theorem dGt_i : dGt (.int i) (.int j) = some (.bl (decide (j < i))) := (rfl)
theorem dGe_i : dGe (.int i) (.int j) = some (.bl (decide (j ≤ i))) := (rfl)
theorem dAdd_i : dAdd (.int i) (.int j) = some (.int (i + j)) := (rfl)
theorem dAdd_l {a b : List D} (h : a.length + b.length ≤ sizeLine) : dAdd (.lst a) (.lst b) = some (.lst (a ++ b)) := (if_pos h)
theorem dAdd_t {a b : List D} (h : a.length + b.length ≤ sizeLine) : dAdd (.tup a) (.tup b) = some (.tup (a ++ b)) := (if_pos h)
theorem dSub_i : dSub (.int i) (.int j) = some (.int (i - j)) := (rfl)
theorem dNeg_i : dNeg (.int i) = some (.int (-i)) := (rfl)
theorem dMod_i (h : 0 < j) : dMod (.int i) (.int j) = some (.int (i % j)) := by
  simp [dMod, dInt, h]
theorem dFdiv_i (h : 0 < j) (h2 : j ≤ 10 ^ 60) : dFdiv (.int i) (.int j) = some (.int (i / j)) := by
  have h3 : j.natAbs.log2 < 9000 := by
    have : j.natAbs < 2 ^ 200 := by
      have : (10 : Int) ^ 60 < 2 ^ 200 := by decide
      omega
    have h0 : j.natAbs ≠ 0 := by omega
    have := (Nat.log2_lt h0).mpr this
    omega
  simp [dFdiv, dInt, h, h3]
theorem dMul_i (h : (-(2 ^ 64) < i ∧ i < 2 ^ 64) ∨ (-(2 ^ 64) < j ∧ j < 2 ^ 64)) : dMul (.int i) (.int j) = some (.int (i * j)) := by
  simp only [dMul]
  rw [if_pos h]
theorem dPow_i (h : 0 ≤ j ∧ j ≤ 1000000 ∧ i.natAbs < 2 ^ 64) : dPow (.int i) (.int j) = some (.int (i ^ j.toNat)) := by
  simp only [dPow, dInt]
  rw [if_pos h]
  rfl
theorem dIx_l {ds : List D} : dIx (.lst ds) (.int i) = atI ds i := (rfl)
theorem dIx_t {ds : List D} : dIx (.tup ds) (.int i) = atI ds i := (rfl)
theorem cLen_l {ds : List D} : cLen [.lst ds] = some (.int ds.length) := (rfl)
theorem cLen_t {ds : List D} : cLen [.tup ds] = some (.int ds.length) := (rfl)
theorem cList_l {ds : List D} : cList [.lst ds] = some (.lst ds) := (rfl)
theorem cList_t {ds : List D} : cList [.tup ds] = some (.lst ds) := (rfl)
theorem cTuple_l {ds : List D} : cTuple [.lst ds] = some (.tup ds) := (rfl)
theorem cTuple_t {ds : List D} : cTuple [.tup ds] = some (.tup ds) := (rfl)
theorem cMin_i : cMin [.int i, .int j] = some (.int (if j < i then j else i)) := (rfl)
theorem cMax_i : cMax [.int i, .int j] = some (.int (if j > i then j else i)) := (rfl)
theorem atI_nt {α : Type} {xs : List α} (n : Nat) : atI xs (n : Int) = xs[n]? := by
  unfold atI ixN
  by_cases h : n < xs.length
  · rw [if_pos (by omega), if_pos (by omega)]; rfl
  · rw [if_pos (by omega), if_neg (by omega), List.getElem?_eq_none (by omega)]; rfl
theorem atI_2 {α : Type} {xs : List α} : atI xs 2 = xs[2]? := atI_nt 2
theorem atI_3 {α : Type} {xs : List α} : atI xs 3 = xs[3]? := atI_nt 3
theorem atI_4 {α : Type} {xs : List α} : atI xs 4 = xs[4]? := atI_nt 4
theorem atI_5 {α : Type} {xs : List α} : atI xs 5 = xs[5]? := atI_nt 5
theorem atI_6 {α : Type} {xs : List α} : atI xs 6 = xs[6]? := atI_nt 6
theorem atI_7 {α : Type} {xs : List α} : atI xs 7 = xs[7]? := atI_nt 7
theorem atI_8 {α : Type} {xs : List α} : atI xs 8 = xs[8]? := atI_nt 8
theorem atI_9 {α : Type} {xs : List α} : atI xs 9 = xs[9]? := atI_nt 9
theorem atI_zero {α : Type} {xs : List α} : atI xs 0 = xs[0]? := atI_nt 0
theorem atI_one {α : Type} {xs : List α} : atI xs 1 = xs[1]? := atI_nt 1
theorem atI_of {α : Type} {xs : List α} (h : 0 ≤ i) : atI xs i = xs[i.toNat]? := by
  obtain ⟨n, rfl⟩ := Int.eq_ofNat_of_zero_le h
  rw [Int.toNat_natCast]
  exact atI_nt n
theorem atI_lst {α : Type} {xs : List α} : atI xs (-1) = xs.getLast? := by
  cases xs with
  | nil => rfl
  | cons x xs =>
    unfold atI ixN
    rw [if_neg (by omega), if_pos (by simp only [List.length_cons]; omega)]
    simp only [Option.bind_some, List.length_cons]
    rw [show ((-1 : Int) + ((xs.length + 1 : Nat) : Int)).toNat = xs.length by omega, List.getLast?_eq_getElem?, List.length_cons, Nat.add_sub_cancel]
theorem dIsN_non : dIsN .non .non = some (.bl true) := (rfl)
theorem dIsN_int : dIsN (.int i) .non = some (.bl false) := (rfl)
theorem dIsN_str {x : Str} : dIsN (.str x) .non = some (.bl false) := (rfl)
theorem dIsN_lst {ds : List D} : dIsN (.lst ds) .non = some (.bl false) := (rfl)
theorem dIsN_tup {ds : List D} : dIsN (.tup ds) .non = some (.bl false) := (rfl)
theorem dIsN_bl {b : Bool} : dIsN (.bl b) .non = some (.bl false) := (rfl)
theorem dNotN_non : dNotN .non .non = some (.bl false) := (rfl)
theorem dNotN_int : dNotN (.int i) .non = some (.bl true) := (rfl)
theorem dNotN_str {x : Str} : dNotN (.str x) .non = some (.bl true) := (rfl)
theorem dNotN_lst {ds : List D} : dNotN (.lst ds) .non = some (.bl true) := (rfl)
theorem dNotN_tup {ds : List D} : dNotN (.tup ds) .non = some (.bl true) := (rfl)
theorem dNotN_bl {b : Bool} : dNotN (.bl b) .non = some (.bl true) := (rfl)
theorem sqS_l {ds : List D} : sqS (.lst ds) = some ds := (rfl)
theorem sqS_t {ds : List D} : sqS (.tup ds) = some ds := (rfl)
theorem enS_l {ds : List D} : enS (.lst ds) = some (ds.zipIdx.map fun p => .tup [.int p.2, p.1]) := (rfl)
theorem enS_t {ds : List D} : enS (.tup ds) = some (ds.zipIdx.map fun p => .tup [.int p.2, p.1]) := (rfl)
theorem blsOf_map {α : Type} {p : α → Bool} : ∀ {xs : List α}, blsOf (xs.map fun x => D.bl (p x)) = some (xs.map p)
  | [] => rfl
  | x :: xs => by rw [List.map_cons, blsOf, blsOf_map]; rfl
theorem cAll_map {α : Type} {p : α → Bool} {xs : List α} : cAll [.lst (xs.map fun x => D.bl (p x))] = some (.bl (xs.all p)) := by
  unfold cAll
  simp only [blsOf_map, Option.map_some, List.all_map]
  rfl
theorem cAny_map {α : Type} {p : α → Bool} {xs : List α} : cAny [.lst (xs.map fun x => D.bl (p x))] = some (.bl (xs.any p)) := by
  unfold cAny
  simp only [blsOf_map, Option.map_some, List.any_map]
  rfl
theorem intsOf_map : ∀ {xs : List Int}, intsOf (xs.map D.int) = some xs
  | [] => rfl
  | x :: xs => by rw [List.map_cons, intsOf, intsOf_map]; rfl
theorem cSum_map {xs : List Int} : cSum [.lst (xs.map D.int)] = some (.int xs.sum) := by
  unfold cSum
  simp only [intsOf_map, Option.map_some]
theorem cSort_map {xs : List Int} : cSort [.lst (xs.map D.int)] = some (.lst ((sortI xs).map D.int)) := by
  unfold cSort
  simp only [intsOf_map, Option.map_some]
theorem sizeLine_val : sizeLine = 16777216 := (rfl)
end
/-! ### classes -/
section
variable {i : Int} {b : Bool} {x : Str} {ds : List D}
theorem isi_list_n : isiD "list" .non = some (.bl false) := (rfl)
theorem isi_list_b : isiD "list" (.bl b) = some (.bl false) := (rfl)
theorem isi_list_i : isiD "list" (.int i) = some (.bl false) := (rfl)
theorem isi_list_s : isiD "list" (.str x) = some (.bl false) := (rfl)
theorem isi_list_l : isiD "list" (.lst ds) = some (.bl true) := (rfl)
theorem isi_list_t : isiD "list" (.tup ds) = some (.bl false) := (rfl)
theorem isi_tuple_n : isiD "tuple" .non = some (.bl false) := (rfl)
theorem isi_tuple_b : isiD "tuple" (.bl b) = some (.bl false) := (rfl)
theorem isi_tuple_i : isiD "tuple" (.int i) = some (.bl false) := (rfl)
theorem isi_tuple_s : isiD "tuple" (.str x) = some (.bl false) := (rfl)
theorem isi_tuple_l : isiD "tuple" (.lst ds) = some (.bl false) := (rfl)
theorem isi_tuple_t : isiD "tuple" (.tup ds) = some (.bl true) := (rfl)
theorem isi_bool_n : isiD "bool" .non = some (.bl false) := (rfl)
theorem isi_bool_b : isiD "bool" (.bl b) = some (.bl true) := (rfl)
theorem isi_bool_i : isiD "bool" (.int i) = some (.bl false) := (rfl)
theorem isi_bool_s : isiD "bool" (.str x) = some (.bl false) := (rfl)
theorem isi_bool_l : isiD "bool" (.lst ds) = some (.bl false) := (rfl)
theorem isi_bool_t : isiD "bool" (.tup ds) = some (.bl false) := (rfl)
theorem isi_int_n : isiD "int" .non = some (.bl false) := (rfl)
theorem isi_int_b : isiD "int" (.bl b) = some (.bl true) := (rfl)
theorem isi_int_i : isiD "int" (.int i) = some (.bl true) := (rfl)
theorem isi_int_s : isiD "int" (.str x) = some (.bl false) := (rfl)
theorem isi_int_l : isiD "int" (.lst ds) = some (.bl false) := (rfl)
theorem isi_int_t : isiD "int" (.tup ds) = some (.bl false) := (rfl)
theorem isi_str_n : isiD "str" .non = some (.bl false) := (rfl)
theorem isi_str_b : isiD "str" (.bl b) = some (.bl false) := (rfl)
theorem isi_str_i : isiD "str" (.int i) = some (.bl false) := (rfl)
theorem isi_str_s : isiD "str" (.str x) = some (.bl true) := (rfl)
theorem isi_str_l : isiD "str" (.lst ds) = some (.bl false) := (rfl)
theorem isi_str_t : isiD "str" (.tup ds) = some (.bl false) := (rfl)
end
end Hw
set_option maxHeartbeats 400000
/-! Pl, part 4: loops that seek, loops that gather. -/
namespace Hw
open PySem PySem.Spec L2
section
variable {α : Type} {g : SG} {body : SS} {τ : Tau}
/-- one turn -/
def turn (g : SG) (body : SS) (d : D) (ρ : Rho) (τ : Tau) : Fl := match g d ρ with
  | none => .bad
  | some ρ1 => body ρ1 τ
theorem a_turn {d : D} {ρ : Rho} : turn g body d ρ τ = match g d ρ with
  | none => .bad
  | some ρ1 => body ρ1 τ := (rfl)
theorem for_turn {d : D} {ds : List D} {ρ : Rho} : forL g body (d :: ds) ρ τ = (turn g body d ρ τ).lp g body ds := by
  rw [for_cons, a_turn]
  cases g d ρ <;> rfl
/-- it goes on -/
def Fl.nxP (o : Fl) (P : Rho → Tau → Prop) : Prop := match o with
  | .nx ρ τ => P ρ τ
  | .cnt ρ τ => P ρ τ
  | _ => False
theorem nxP_nx {P : Rho → Tau → Prop} {ρ : Rho} : (Fl.nx ρ τ).nxP P = P ρ τ := (rfl)
theorem nxP_cnt {P : Rho → Tau → Prop} {ρ : Rho} : (Fl.cnt ρ τ).nxP P = P ρ τ := (rfl)
theorem nxP_ite {c : Prop} [Decidable c] {x y : Fl} {P : Rho → Tau → Prop} : (if c then x else y).nxP P = if c then x.nxP P else y.nxP P := by split <;> rfl
theorem nxP_lp {o : Fl} {P : Rho → Tau → Prop} {ds : List D} (h : o.nxP P) : ∃ ρ τ, P ρ τ ∧ o.lp g body ds = forL g body ds ρ τ := by
  cases o with
  | nx ρ τ => exact ⟨ρ, τ, h, rfl⟩
  | cnt ρ τ => exact ⟨ρ, τ, h, rfl⟩
  | _ => exact h.elim
/-- a loop over numbered items that answers at the first one with p -/
theorem for_find (e : α × Nat → D) (p : α → Bool) (res : Nat → D) (J : Rho → Prop) : ∀ (xs : List α) (k : Nat) (ρ : Rho), J ρ →
    (∀ q ∈ xs.zipIdx k, ∀ ρ, J ρ → (p q.1 = true → turn g body (e q) ρ τ = .ret (res q.2) τ) ∧ (p q.1 = false → (turn g body (e q) ρ τ).nxP fun ρ2 τ2 => τ2 = τ ∧ J ρ2)) →
    (xs.findIdx? p = none → ∃ ρ2, forL g body ((xs.zipIdx k).map e) ρ τ = .nx ρ2 τ ∧ J ρ2) ∧ (∀ i, xs.findIdx? p = some i → forL g body ((xs.zipIdx k).map e) ρ τ = .ret (res (k + i)) τ)
  | [], k, ρ, h0, _ => ⟨fun _ => ⟨ρ, rfl, h0⟩, fun i h => by simp at h⟩
  | x :: xs, k, ρ, h0, h => by
    obtain ⟨h2, h3⟩ := h (x, k) (by simp) ρ h0
    rw [List.zipIdx_cons, List.map_cons, for_turn]
    cases hp : p x with
    | true =>
      refine ⟨fun hn => ?_, fun i hi => ?_⟩
      · simp [List.findIdx?_cons, hp] at hn
      · simp [List.findIdx?_cons, hp] at hi
        subst hi
        rw [h2 hp]
        rfl
    | false =>
      obtain ⟨ρ2, τ2, ⟨et, h5⟩, h4⟩ := nxP_lp (g := g) (body := body) (ds := (xs.zipIdx (k + 1)).map e) (h3 hp)
      obtain ⟨r1, r2⟩ := for_find e p res J xs (k + 1) ρ2 h5 fun q hq => h q (by rw [List.zipIdx_cons]; exact List.mem_cons_of_mem _ hq)
      rw [h4, et]
      refine ⟨fun hn => r1 ?_, fun i hi => ?_⟩
      · simpa [List.findIdx?_cons, hp] using hn
      · simp [List.findIdx?_cons, hp] at hi
        obtain ⟨j, hj, rfl⟩ := hi
        rw [r2 j hj, show k + 1 + j = k + (j + 1) by omega]
/-- a loop that gathers -/
theorem for_fold {S : Type} (e : α → D) (step : S → α → S) (J : S → Rho → Tau → Prop) : ∀ (xs : List α) (s : S) (ρ : Rho) (τ : Tau), J s ρ τ →
    (∀ x ∈ xs, ∀ s ρ τ, J s ρ τ → (turn g body (e x) ρ τ).nxP (J (step s x))) →
    ∃ ρ2 τ2, forL g body (xs.map e) ρ τ = .nx ρ2 τ2 ∧ J (xs.foldl step s) ρ2 τ2
  | [], s, ρ, τ, h0, _ => ⟨ρ, τ, rfl, h0⟩
  | x :: xs, s, ρ, τ, h0, h => by
    obtain ⟨ρ2, τ2, h3, h2⟩ := nxP_lp (g := g) (body := body) (ds := xs.map e) (h x (List.mem_cons_self ..) s ρ τ h0)
    obtain ⟨ρ3, τ3, h4, h5⟩ := for_fold e step J xs (step s x) ρ2 τ2 h3 fun y hy => h y (List.mem_cons_of_mem _ hy)
    exact ⟨ρ3, τ3, by rw [List.map_cons, for_turn, h2, h4], h5⟩
/-- the same, with the number of turns done -/
theorem for_foldi {S : Type} (e : α → D) (step : S → α → S) (J : Nat → S → Rho → Tau → Prop) : ∀ (xs : List α) (k : Nat) (s : S) (ρ : Rho) (τ : Tau), J k s ρ τ →
    (∀ (i : Nat) (x : α) (s : S) ρ τ, xs[i]? = some x → J (k + i) s ρ τ → (turn g body (e x) ρ τ).nxP (J (k + i + 1) (step s x))) →
    ∃ ρ2 τ2, forL g body (xs.map e) ρ τ = .nx ρ2 τ2 ∧ J (k + xs.length) (xs.foldl step s) ρ2 τ2
  | [], k, s, ρ, τ, h0, _ => ⟨ρ, τ, rfl, h0⟩
  | x :: xs, k, s, ρ, τ, h0, h => by
    obtain ⟨ρ2, τ2, h3, h2⟩ := nxP_lp (g := g) (body := body) (ds := xs.map e) (h 0 x s ρ τ rfl h0)
    obtain ⟨ρ3, τ3, h4, h5⟩ := for_foldi e step J xs (k + 1) (step s x) ρ2 τ2 h3 fun i y s' ρ' τ' hy hJ => by
      have := h (i + 1) y s' ρ' τ' (by simpa using hy) (by rw [show k + (i + 1) = k + 1 + i by omega]; exact hJ)
      rw [show k + 1 + i + 1 = k + (i + 1) + 1 by omega]
      exact this
    refine ⟨ρ3, τ3, by rw [List.map_cons, for_turn, h2, h4], ?_⟩
    rw [show k + (x :: xs).length = k + 1 + xs.length by rw [List.length_cons]; omega]
    exact h5
theorem foldl_flat {β : Type} (f : α → List β) : ∀ (xs : List α) (s : List β), xs.foldl (fun s x => s ++ f x) s = s ++ xs.flatMap f
  | [], s => by simp
  | x :: xs, s => by rw [List.foldl_cons, foldl_flat f xs, List.flatMap_cons, List.append_assoc]
end
theorem rng_if {α : Type} {n : Nat} {x y : α} (h : n ≤ 16777216) : (if -4611686018427387904 ≤ (n : Int) ∧ (n : Int) < 4611686018427387904 then x else y) = x := if_pos (by omega)
theorem range_zip {α : Type} (xs : List α) : (List.range xs.length).map (fun (n : Nat) => D.int n) = (xs.zipIdx).map fun q => D.int (q.2 : Nat) := by
  apply List.ext_getElem?
  intro i
  simp only [List.getElem?_map, List.getElem?_zipIdx, List.getElem?_range]
  by_cases h : i < xs.length
  · simp [h]
  · simp [h]
theorem en_map {α : Type} (f : α → D) (xs : List α) : ((xs.map f).zipIdx).map (fun p => D.tup [.int (p.2 : Nat), p.1]) = (xs.zipIdx).map fun q => D.tup [.int (q.2 : Nat), f q.1] := by
  rw [List.zipIdx_map, List.map_map]
  rfl
end Hw
set_option maxHeartbeats 400000
namespace K03
open PySem PySem.Spec L2 Hw
instance : StrOk "no" := ⟨by decide +kernel⟩
instance : StrOk "told" := ⟨by decide +kernel⟩
instance : StrOk "edge" := ⟨by decide +kernel⟩
instance : StrOk "swap" := ⟨by decide +kernel⟩
instance : StrOk "BadNet" := ⟨by decide +kernel⟩
instance : StrOk "BadNumber" := ⟨by decide +kernel⟩
instance : StrOk "Full" := ⟨by decide +kernel⟩
abbrev Ed := Int × Int × Int
def tri (p : Ed) : D := .tup [.int p.1, .int p.2.1, .int p.2.2]
/-- is it an edge of c colors, n nodes -/
def edOk (c n : Int) (p : Ed) : Bool := (decide (0 ≤ p.1) && decide (p.1 < c)) && ((decide (0 ≤ p.2.1) && decide (p.2.1 < n)) && (decide (0 ≤ p.2.2) && decide (p.2.2 < n)))
/-- the place of the first that is none -/
def ef (c n : Int) (L : List Ed) : Option Nat := L.findIdx? fun p => !edOk c n p
def efD : Option Nat → D
  | none => .non
  | some i => .tup [.str "edge", .int i]
theorem edge_fault_ok (c n : Int) (L : List Ed) : m_edge_fault [.fz (.int c), .fz (.int n), .fz (.lst (L.map tri))] [] = .ok (efD (ef c n L)) [] := by
  obtain ⟨h1, h2⟩ := for_find (g := lg_edge_fault_0) (body := lb_edge_fault_0) (τ := [])
    (fun q : Ed × Nat => .tup [.int q.2, tri q.1]) (fun p => !edOk c n p) (fun i => .tup [.str "edge", .int i]) (fun ρ => ∃ x y z w, ρ = [.fz (.int c), .fz (.int n), .fz (.lst (L.map tri)), x, y, z, w])
    L 0 _ ⟨.no, .no, .no, .no, rfl⟩ (by
      rintro ⟨p, i⟩ hq ρ ⟨x, y, z, w, rfl⟩
      refine ⟨fun hp => ?_, fun hp => ?_⟩
      · simp only [lg_edge_fault_0, lb_edge_fault_0, tri, a_kBin2, a_kBin, a_kUn, a_kIfE, a_kAndT, a_kOrT, a_kNotT, a_kCons2, a_kCons, a_kCallB, a_kTup, a_kLst, a_kDrop, a_kRet, a_kIfS, a_kSet, a_kSetF, a_kFor, a_kPar2, a_kPar, a_kAnd, a_kOr, a_kNot, a_kCh3, a_kCh2, a_kCh1, a_kSl3, a_kSl2, a_kSl1, a_koSo, a_kOfL, a_krC2, a_krC, a_krIo, a_krDef, a_kCall, a_kCallIo, a_kRaise, a_ktOf, a_kTgt, a_kRng1, a_kRng2, a_kEn, a_kZp2, a_kZp, a_kiLst, a_kLc2, a_kLc, a_kMut, a_kPut2, a_kPut, a_kDPut2, a_kDPut, a_kFldS, a_kMake, a_kLenO, a_runB, a_C, a_Bin, a_Un, a_If, a_tAnd, a_tOr, a_tNot, a_tYes, a_Nil, a_Cons, a_CallB, a_Tup, a_Lst, a_Next, a_Brk, a_Cnt, a_Bad, a_Seq, a_Drop, a_Ret, a_sIf, a_Set, a_SetF, a_Frz, a_For, a_Par, a_AndS, a_OrS, a_Not, a_ChainS, a_Sl, a_oNo, a_oSo, a_iSqS, a_iEnS, a_rNil, a_rCons, a_rDef, a_rIo, a_CallIo, a_Call, a_Raise, a_Var, a_VarB, a_tOf, a_Tgt, a_RetOwn, a_IoIx, a_iRng1, a_iRng2, a_iEn, a_iZp, a_iLst, a_Lc, a_Mut, a_Put, a_DPut, a_FldS, a_Tried, a_Make, a_LenO, a_ForD0, a_getC, a_setC, a_frzR, bind_ok', bind_exc, bind_bad, bind_ite, andS_ok, andS_exc, andS_bad, andS_ite, of_some, of_none, of_ite, sq_nx, sq_ret, sq_brk, sq_cnt, sq_exc, sq_bad, sq_ite, out_ret, out_nxF, out_exc, out_ite, back_ok, back_exc, back_ite, selB_bl, selB_ite, g_N, g_Tt, g_Tl, g_nil, g_cons, dLt_i, dLe_i, dGt_i, dGe_i, dAdd_i, dSub_i, dNeg_i, dIx_l, dIx_t, cLen_l, cLen_t, cList_l, cList_t, cTuple_l, cTuple_t, cMin_i, cMax_i, atI_zero, atI_one, atI_2, atI_3, atI_4, atI_5, atI_nt, atI_lst, dEq_pl, dNe_pl, dEq_bl, dNe_bl, dIsN_non, dIsN_int, dIsN_str, dIsN_lst, dIsN_tup, dIsN_bl, dNotN_non, dNotN_int, dNotN_str, dNotN_lst, dNotN_tup, dNotN_bl, sqS_l, sqS_t, enS_l, enS_t, noIo, isLst, wipeR, isi_list_n, isi_list_b, isi_list_i, isi_list_s, isi_list_l, isi_list_t, isi_tuple_n, isi_tuple_b, isi_tuple_i, isi_tuple_s, isi_tuple_l, isi_tuple_t, isi_bool_n, isi_bool_b, isi_bool_i, isi_bool_s, isi_bool_l, isi_bool_t, isi_int_n, isi_int_b, isi_int_i, isi_int_s, isi_int_l, isi_int_t, isi_str_n, isi_str_b, isi_str_i, isi_str_s, isi_str_l, isi_str_t, List.foldr_cons, List.foldr_nil, List.getElem?_cons_zero, List.getElem?_cons_succ, List.set_cons_zero, List.set_cons_succ, List.length_cons, List.length_nil, List.replicate_succ, List.replicate_zero, List.cons_append, List.nil_append, List.map_cons, List.map_nil, Nat.reduceAdd, Nat.reduceSub, Nat.reduceLeDiff, Nat.reduceLT, sizeLine_val, ite_true, ite_false, if_true, if_false, Bool.false_eq_true, Bool.true_eq_false, decide_eq_true_eq, Bool.not_eq_true', Bool.not_true, Bool.not_false, decide_true, decide_false, decide_eq_false_iff_not, D.int.injEq, D.str.injEq, D.bl.injEq, reduceCtorEq, Int.cast_ofNat_Int, Int.reduceNeg, Int.reducePow, Int.reduceLE, Int.reduceLT, Int.reduceToNat, and_self, Int.reduceEq, Int.reduceNe, Nat.reduceEqDiff, not_false_eq_true, not_true_eq_false, Int.toNat_natCast, List.range_succ, List.range_zero, a_turn, nxP_nx, nxP_cnt, nxP_ite, ↓reduceIte]
        simp [edOk] at hp
        (repeat' split) <;> first | rfl | (exfalso; omega)
      · simp [edOk] at hp
        simp only [lg_edge_fault_0, lb_edge_fault_0, tri, a_kBin2, a_kBin, a_kUn, a_kIfE, a_kAndT, a_kOrT, a_kNotT, a_kCons2, a_kCons, a_kCallB, a_kTup, a_kLst, a_kDrop, a_kRet, a_kIfS, a_kSet, a_kSetF, a_kFor, a_kPar2, a_kPar, a_kAnd, a_kOr, a_kNot, a_kCh3, a_kCh2, a_kCh1, a_kSl3, a_kSl2, a_kSl1, a_koSo, a_kOfL, a_krC2, a_krC, a_krIo, a_krDef, a_kCall, a_kCallIo, a_kRaise, a_ktOf, a_kTgt, a_kRng1, a_kRng2, a_kEn, a_kZp2, a_kZp, a_kiLst, a_kLc2, a_kLc, a_kMut, a_kPut2, a_kPut, a_kDPut2, a_kDPut, a_kFldS, a_kMake, a_kLenO, a_runB, a_C, a_Bin, a_Un, a_If, a_tAnd, a_tOr, a_tNot, a_tYes, a_Nil, a_Cons, a_CallB, a_Tup, a_Lst, a_Next, a_Brk, a_Cnt, a_Bad, a_Seq, a_Drop, a_Ret, a_sIf, a_Set, a_SetF, a_Frz, a_For, a_Par, a_AndS, a_OrS, a_Not, a_ChainS, a_Sl, a_oNo, a_oSo, a_iSqS, a_iEnS, a_rNil, a_rCons, a_rDef, a_rIo, a_CallIo, a_Call, a_Raise, a_Var, a_VarB, a_tOf, a_Tgt, a_RetOwn, a_IoIx, a_iRng1, a_iRng2, a_iEn, a_iZp, a_iLst, a_Lc, a_Mut, a_Put, a_DPut, a_FldS, a_Tried, a_Make, a_LenO, a_ForD0, a_getC, a_setC, a_frzR, bind_ok', bind_exc, bind_bad, bind_ite, andS_ok, andS_exc, andS_bad, andS_ite, of_some, of_none, of_ite, sq_nx, sq_ret, sq_brk, sq_cnt, sq_exc, sq_bad, sq_ite, out_ret, out_nxF, out_exc, out_ite, back_ok, back_exc, back_ite, selB_bl, selB_ite, g_N, g_Tt, g_Tl, g_nil, g_cons, dLt_i, dLe_i, dGt_i, dGe_i, dAdd_i, dSub_i, dNeg_i, dIx_l, dIx_t, cLen_l, cLen_t, cList_l, cList_t, cTuple_l, cTuple_t, cMin_i, cMax_i, atI_zero, atI_one, atI_2, atI_3, atI_4, atI_5, atI_nt, atI_lst, dEq_pl, dNe_pl, dEq_bl, dNe_bl, dIsN_non, dIsN_int, dIsN_str, dIsN_lst, dIsN_tup, dIsN_bl, dNotN_non, dNotN_int, dNotN_str, dNotN_lst, dNotN_tup, dNotN_bl, sqS_l, sqS_t, enS_l, enS_t, noIo, isLst, wipeR, isi_list_n, isi_list_b, isi_list_i, isi_list_s, isi_list_l, isi_list_t, isi_tuple_n, isi_tuple_b, isi_tuple_i, isi_tuple_s, isi_tuple_l, isi_tuple_t, isi_bool_n, isi_bool_b, isi_bool_i, isi_bool_s, isi_bool_l, isi_bool_t, isi_int_n, isi_int_b, isi_int_i, isi_int_s, isi_int_l, isi_int_t, isi_str_n, isi_str_b, isi_str_i, isi_str_s, isi_str_l, isi_str_t, List.foldr_cons, List.foldr_nil, List.getElem?_cons_zero, List.getElem?_cons_succ, List.set_cons_zero, List.set_cons_succ, List.length_cons, List.length_nil, List.replicate_succ, List.replicate_zero, List.cons_append, List.nil_append, List.map_cons, List.map_nil, Nat.reduceAdd, Nat.reduceSub, Nat.reduceLeDiff, Nat.reduceLT, sizeLine_val, ite_true, ite_false, if_true, if_false, Bool.false_eq_true, Bool.true_eq_false, decide_eq_true_eq, Bool.not_eq_true', Bool.not_true, Bool.not_false, decide_true, decide_false, decide_eq_false_iff_not, D.int.injEq, D.str.injEq, D.bl.injEq, reduceCtorEq, Int.cast_ofNat_Int, Int.reduceNeg, Int.reducePow, Int.reduceLE, Int.reduceLT, Int.reduceToNat, and_self, Int.reduceEq, Int.reduceNe, Nat.reduceEqDiff, not_false_eq_true, not_true_eq_false, Int.toNat_natCast, List.range_succ, List.range_zero, a_turn, nxP_nx, nxP_cnt, nxP_ite, ↓reduceIte, hp]
        exact ⟨trivial, _, _, _, _, rfl⟩)
  simp only [m_edge_fault, b_edge_fault, a_kBin2, a_kBin, a_kUn, a_kIfE, a_kAndT, a_kOrT, a_kNotT, a_kCons2, a_kCons, a_kCallB, a_kTup, a_kLst, a_kDrop, a_kRet, a_kIfS, a_kSet, a_kSetF, a_kFor, a_kPar2, a_kPar, a_kAnd, a_kOr, a_kNot, a_kCh3, a_kCh2, a_kCh1, a_kSl3, a_kSl2, a_kSl1, a_koSo, a_kOfL, a_krC2, a_krC, a_krIo, a_krDef, a_kCall, a_kCallIo, a_kRaise, a_ktOf, a_kTgt, a_kRng1, a_kRng2, a_kEn, a_kZp2, a_kZp, a_kiLst, a_kLc2, a_kLc, a_kMut, a_kPut2, a_kPut, a_kDPut2, a_kDPut, a_kFldS, a_kMake, a_kLenO, a_runB, a_C, a_Bin, a_Un, a_If, a_tAnd, a_tOr, a_tNot, a_tYes, a_Nil, a_Cons, a_CallB, a_Tup, a_Lst, a_Next, a_Brk, a_Cnt, a_Bad, a_Seq, a_Drop, a_Ret, a_sIf, a_Set, a_SetF, a_Frz, a_For, a_Par, a_AndS, a_OrS, a_Not, a_ChainS, a_Sl, a_oNo, a_oSo, a_iSqS, a_iEnS, a_rNil, a_rCons, a_rDef, a_rIo, a_CallIo, a_Call, a_Raise, a_Var, a_VarB, a_tOf, a_Tgt, a_RetOwn, a_IoIx, a_iRng1, a_iRng2, a_iEn, a_iZp, a_iLst, a_Lc, a_Mut, a_Put, a_DPut, a_FldS, a_Tried, a_Make, a_LenO, a_ForD0, a_getC, a_setC, a_frzR, bind_ok', bind_exc, bind_bad, bind_ite, andS_ok, andS_exc, andS_bad, andS_ite, of_some, of_none, of_ite, sq_nx, sq_ret, sq_brk, sq_cnt, sq_exc, sq_bad, sq_ite, out_ret, out_nxF, out_exc, out_ite, back_ok, back_exc, back_ite, selB_bl, selB_ite, g_N, g_Tt, g_Tl, g_nil, g_cons, dLt_i, dLe_i, dGt_i, dGe_i, dAdd_i, dSub_i, dNeg_i, dIx_l, dIx_t, cLen_l, cLen_t, cList_l, cList_t, cTuple_l, cTuple_t, cMin_i, cMax_i, atI_zero, atI_one, atI_2, atI_3, atI_4, atI_5, atI_nt, atI_lst, dEq_pl, dNe_pl, dEq_bl, dNe_bl, dIsN_non, dIsN_int, dIsN_str, dIsN_lst, dIsN_tup, dIsN_bl, dNotN_non, dNotN_int, dNotN_str, dNotN_lst, dNotN_tup, dNotN_bl, sqS_l, sqS_t, enS_l, enS_t, noIo, isLst, wipeR, isi_list_n, isi_list_b, isi_list_i, isi_list_s, isi_list_l, isi_list_t, isi_tuple_n, isi_tuple_b, isi_tuple_i, isi_tuple_s, isi_tuple_l, isi_tuple_t, isi_bool_n, isi_bool_b, isi_bool_i, isi_bool_s, isi_bool_l, isi_bool_t, isi_int_n, isi_int_b, isi_int_i, isi_int_s, isi_int_l, isi_int_t, isi_str_n, isi_str_b, isi_str_i, isi_str_s, isi_str_l, isi_str_t, List.foldr_cons, List.foldr_nil, List.getElem?_cons_zero, List.getElem?_cons_succ, List.set_cons_zero, List.set_cons_succ, List.length_cons, List.length_nil, List.replicate_succ, List.replicate_zero, List.cons_append, List.nil_append, List.map_cons, List.map_nil, Nat.reduceAdd, Nat.reduceSub, Nat.reduceLeDiff, Nat.reduceLT, sizeLine_val, ite_true, ite_false, if_true, if_false, Bool.false_eq_true, Bool.true_eq_false, decide_eq_true_eq, Bool.not_eq_true', Bool.not_true, Bool.not_false, decide_true, decide_false, decide_eq_false_iff_not, D.int.injEq, D.str.injEq, D.bl.injEq, reduceCtorEq, Int.cast_ofNat_Int, Int.reduceNeg, Int.reducePow, Int.reduceLE, Int.reduceLT, Int.reduceToNat, and_self, Int.reduceEq, Int.reduceNe, Nat.reduceEqDiff, not_false_eq_true, not_true_eq_false, Int.toNat_natCast, List.range_succ, List.range_zero, a_turn, nxP_nx, nxP_cnt, nxP_ite, ↓reduceIte, en_map]
  cases he : L.findIdx? (fun p => !edOk c n p) with
  | none =>
    obtain ⟨ρ2, h3, _⟩ := h1 he
    simp only [h3, a_kBin2, a_kBin, a_kUn, a_kIfE, a_kAndT, a_kOrT, a_kNotT, a_kCons2, a_kCons, a_kCallB, a_kTup, a_kLst, a_kDrop, a_kRet, a_kIfS, a_kSet, a_kSetF, a_kFor, a_kPar2, a_kPar, a_kAnd, a_kOr, a_kNot, a_kCh3, a_kCh2, a_kCh1, a_kSl3, a_kSl2, a_kSl1, a_koSo, a_kOfL, a_krC2, a_krC, a_krIo, a_krDef, a_kCall, a_kCallIo, a_kRaise, a_ktOf, a_kTgt, a_kRng1, a_kRng2, a_kEn, a_kZp2, a_kZp, a_kiLst, a_kLc2, a_kLc, a_kMut, a_kPut2, a_kPut, a_kDPut2, a_kDPut, a_kFldS, a_kMake, a_kLenO, a_runB, a_C, a_Bin, a_Un, a_If, a_tAnd, a_tOr, a_tNot, a_tYes, a_Nil, a_Cons, a_CallB, a_Tup, a_Lst, a_Next, a_Brk, a_Cnt, a_Bad, a_Seq, a_Drop, a_Ret, a_sIf, a_Set, a_SetF, a_Frz, a_For, a_Par, a_AndS, a_OrS, a_Not, a_ChainS, a_Sl, a_oNo, a_oSo, a_iSqS, a_iEnS, a_rNil, a_rCons, a_rDef, a_rIo, a_CallIo, a_Call, a_Raise, a_Var, a_VarB, a_tOf, a_Tgt, a_RetOwn, a_IoIx, a_iRng1, a_iRng2, a_iEn, a_iZp, a_iLst, a_Lc, a_Mut, a_Put, a_DPut, a_FldS, a_Tried, a_Make, a_LenO, a_ForD0, a_getC, a_setC, a_frzR, bind_ok', bind_exc, bind_bad, bind_ite, andS_ok, andS_exc, andS_bad, andS_ite, of_some, of_none, of_ite, sq_nx, sq_ret, sq_brk, sq_cnt, sq_exc, sq_bad, sq_ite, out_ret, out_nxF, out_exc, out_ite, back_ok, back_exc, back_ite, selB_bl, selB_ite, g_N, g_Tt, g_Tl, g_nil, g_cons, dLt_i, dLe_i, dGt_i, dGe_i, dAdd_i, dSub_i, dNeg_i, dIx_l, dIx_t, cLen_l, cLen_t, cList_l, cList_t, cTuple_l, cTuple_t, cMin_i, cMax_i, atI_zero, atI_one, atI_2, atI_3, atI_4, atI_5, atI_nt, atI_lst, dEq_pl, dNe_pl, dEq_bl, dNe_bl, dIsN_non, dIsN_int, dIsN_str, dIsN_lst, dIsN_tup, dIsN_bl, dNotN_non, dNotN_int, dNotN_str, dNotN_lst, dNotN_tup, dNotN_bl, sqS_l, sqS_t, enS_l, enS_t, noIo, isLst, wipeR, isi_list_n, isi_list_b, isi_list_i, isi_list_s, isi_list_l, isi_list_t, isi_tuple_n, isi_tuple_b, isi_tuple_i, isi_tuple_s, isi_tuple_l, isi_tuple_t, isi_bool_n, isi_bool_b, isi_bool_i, isi_bool_s, isi_bool_l, isi_bool_t, isi_int_n, isi_int_b, isi_int_i, isi_int_s, isi_int_l, isi_int_t, isi_str_n, isi_str_b, isi_str_i, isi_str_s, isi_str_l, isi_str_t, List.foldr_cons, List.foldr_nil, List.getElem?_cons_zero, List.getElem?_cons_succ, List.set_cons_zero, List.set_cons_succ, List.length_cons, List.length_nil, List.replicate_succ, List.replicate_zero, List.cons_append, List.nil_append, List.map_cons, List.map_nil, Nat.reduceAdd, Nat.reduceSub, Nat.reduceLeDiff, Nat.reduceLT, sizeLine_val, ite_true, ite_false, if_true, if_false, Bool.false_eq_true, Bool.true_eq_false, decide_eq_true_eq, Bool.not_eq_true', Bool.not_true, Bool.not_false, decide_true, decide_false, decide_eq_false_iff_not, D.int.injEq, D.str.injEq, D.bl.injEq, reduceCtorEq, Int.cast_ofNat_Int, Int.reduceNeg, Int.reducePow, Int.reduceLE, Int.reduceLT, Int.reduceToNat, and_self, Int.reduceEq, Int.reduceNe, Nat.reduceEqDiff, not_false_eq_true, not_true_eq_false, Int.toNat_natCast, List.range_succ, List.range_zero, a_turn, nxP_nx, nxP_cnt, nxP_ite, ↓reduceIte, ef, he, efD]
  | some i =>
    simp only [h2 i he, a_kBin2, a_kBin, a_kUn, a_kIfE, a_kAndT, a_kOrT, a_kNotT, a_kCons2, a_kCons, a_kCallB, a_kTup, a_kLst, a_kDrop, a_kRet, a_kIfS, a_kSet, a_kSetF, a_kFor, a_kPar2, a_kPar, a_kAnd, a_kOr, a_kNot, a_kCh3, a_kCh2, a_kCh1, a_kSl3, a_kSl2, a_kSl1, a_koSo, a_kOfL, a_krC2, a_krC, a_krIo, a_krDef, a_kCall, a_kCallIo, a_kRaise, a_ktOf, a_kTgt, a_kRng1, a_kRng2, a_kEn, a_kZp2, a_kZp, a_kiLst, a_kLc2, a_kLc, a_kMut, a_kPut2, a_kPut, a_kDPut2, a_kDPut, a_kFldS, a_kMake, a_kLenO, a_runB, a_C, a_Bin, a_Un, a_If, a_tAnd, a_tOr, a_tNot, a_tYes, a_Nil, a_Cons, a_CallB, a_Tup, a_Lst, a_Next, a_Brk, a_Cnt, a_Bad, a_Seq, a_Drop, a_Ret, a_sIf, a_Set, a_SetF, a_Frz, a_For, a_Par, a_AndS, a_OrS, a_Not, a_ChainS, a_Sl, a_oNo, a_oSo, a_iSqS, a_iEnS, a_rNil, a_rCons, a_rDef, a_rIo, a_CallIo, a_Call, a_Raise, a_Var, a_VarB, a_tOf, a_Tgt, a_RetOwn, a_IoIx, a_iRng1, a_iRng2, a_iEn, a_iZp, a_iLst, a_Lc, a_Mut, a_Put, a_DPut, a_FldS, a_Tried, a_Make, a_LenO, a_ForD0, a_getC, a_setC, a_frzR, bind_ok', bind_exc, bind_bad, bind_ite, andS_ok, andS_exc, andS_bad, andS_ite, of_some, of_none, of_ite, sq_nx, sq_ret, sq_brk, sq_cnt, sq_exc, sq_bad, sq_ite, out_ret, out_nxF, out_exc, out_ite, back_ok, back_exc, back_ite, selB_bl, selB_ite, g_N, g_Tt, g_Tl, g_nil, g_cons, dLt_i, dLe_i, dGt_i, dGe_i, dAdd_i, dSub_i, dNeg_i, dIx_l, dIx_t, cLen_l, cLen_t, cList_l, cList_t, cTuple_l, cTuple_t, cMin_i, cMax_i, atI_zero, atI_one, atI_2, atI_3, atI_4, atI_5, atI_nt, atI_lst, dEq_pl, dNe_pl, dEq_bl, dNe_bl, dIsN_non, dIsN_int, dIsN_str, dIsN_lst, dIsN_tup, dIsN_bl, dNotN_non, dNotN_int, dNotN_str, dNotN_lst, dNotN_tup, dNotN_bl, sqS_l, sqS_t, enS_l, enS_t, noIo, isLst, wipeR, isi_list_n, isi_list_b, isi_list_i, isi_list_s, isi_list_l, isi_list_t, isi_tuple_n, isi_tuple_b, isi_tuple_i, isi_tuple_s, isi_tuple_l, isi_tuple_t, isi_bool_n, isi_bool_b, isi_bool_i, isi_bool_s, isi_bool_l, isi_bool_t, isi_int_n, isi_int_b, isi_int_i, isi_int_s, isi_int_l, isi_int_t, isi_str_n, isi_str_b, isi_str_i, isi_str_s, isi_str_l, isi_str_t, List.foldr_cons, List.foldr_nil, List.getElem?_cons_zero, List.getElem?_cons_succ, List.set_cons_zero, List.set_cons_succ, List.length_cons, List.length_nil, List.replicate_succ, List.replicate_zero, List.cons_append, List.nil_append, List.map_cons, List.map_nil, Nat.reduceAdd, Nat.reduceSub, Nat.reduceLeDiff, Nat.reduceLT, sizeLine_val, ite_true, ite_false, if_true, if_false, Bool.false_eq_true, Bool.true_eq_false, decide_eq_true_eq, Bool.not_eq_true', Bool.not_true, Bool.not_false, decide_true, decide_false, decide_eq_false_iff_not, D.int.injEq, D.str.injEq, D.bl.injEq, reduceCtorEq, Int.cast_ofNat_Int, Int.reduceNeg, Int.reducePow, Int.reduceLE, Int.reduceLT, Int.reduceToNat, and_self, Int.reduceEq, Int.reduceNe, Nat.reduceEqDiff, not_false_eq_true, not_true_eq_false, Int.toNat_natCast, List.range_succ, List.range_zero, a_turn, nxP_nx, nxP_cnt, nxP_ite, ↓reduceIte, ef, he, efD, Nat.zero_add]
theorem rough_loop (c n : Int) (L : List Ed) (hl : L.length < 1000) (E : List D) : (ef c n L = none → ∃ ρ2, forL (gN 5) lb_l_rough_fault_0 (L.zipIdx.map fun q => .int q.2) [.fz (.tup [.int c, .int n, .lst (L.map tri), .lst E]), .fz (.int c), .fz (.int n), .fz (.lst (L.map tri)), .fz (.lst E), .no, .no, .no, .no, .no, .no, .no] [] = .nx ρ2 [] ∧
      ∃ x y z w, ρ2 = [.fz (.tup [.int c, .int n, .lst (L.map tri), .lst E]), .fz (.int c), .fz (.int n), .fz (.lst (L.map tri)), .fz (.lst E), x, y, z, w, .no, .no, .no]) ∧
      ∀ i, ef c n L = some i → forL (gN 5) lb_l_rough_fault_0 (L.zipIdx.map fun q => .int q.2) [.fz (.tup [.int c, .int n, .lst (L.map tri), .lst E]), .fz (.int c), .fz (.int n), .fz (.lst (L.map tri)), .fz (.lst E), .no, .no, .no, .no, .no, .no, .no] [] = .ret (.tup [.str "edge", .int (0 + i : Nat)]) [] := by
    refine for_find (g := gN 5) (body := lb_l_rough_fault_0) (fun q : Ed × Nat => .int q.2) (fun p => !edOk c n p) (fun i => .tup [.str "edge", .int i]) (fun ρ => ∃ x y z w, ρ = [.fz (.tup [.int c, .int n, .lst (L.map tri), .lst E]), .fz (.int c), .fz (.int n), .fz (.lst (L.map tri)), .fz (.lst E), x, y, z, w, .no, .no, .no])
      L 0 _ ⟨.no, .no, .no, .no, rfl⟩ ?_
    rintro ⟨p, i⟩ hq ρ ⟨x, y, z, w, rfl⟩
    have hi : L[i]? = some p := by simpa using List.mem_zipIdx_iff_getElem?.mp hq
    refine ⟨fun hp => ?_, fun hp => ?_⟩
    · simp only [lb_l_rough_fault_0, a_kBin2, a_kBin, a_kUn, a_kIfE, a_kAndT, a_kOrT, a_kNotT, a_kCons2, a_kCons, a_kCallB, a_kTup, a_kLst, a_kDrop, a_kRet, a_kIfS, a_kSet, a_kSetF, a_kFor, a_kPar2, a_kPar, a_kAnd, a_kOr, a_kNot, a_kCh3, a_kCh2, a_kCh1, a_kSl3, a_kSl2, a_kSl1, a_koSo, a_kOfL, a_krC2, a_krC, a_krIo, a_krDef, a_kCall, a_kCallIo, a_kRaise, a_ktOf, a_kTgt, a_kRng1, a_kRng2, a_kEn, a_kZp2, a_kZp, a_kiLst, a_kLc2, a_kLc, a_kMut, a_kPut2, a_kPut, a_kDPut2, a_kDPut, a_kFldS, a_kMake, a_kLenO, a_runB, a_C, a_Bin, a_Un, a_If, a_tAnd, a_tOr, a_tNot, a_tYes, a_Nil, a_Cons, a_CallB, a_Tup, a_Lst, a_Next, a_Brk, a_Cnt, a_Bad, a_Seq, a_Drop, a_Ret, a_sIf, a_Set, a_SetF, a_Frz, a_For, a_Par, a_AndS, a_OrS, a_Not, a_ChainS, a_Sl, a_oNo, a_oSo, a_iSqS, a_iEnS, a_rNil, a_rCons, a_rDef, a_rIo, a_CallIo, a_Call, a_Raise, a_Var, a_VarB, a_tOf, a_Tgt, a_RetOwn, a_IoIx, a_iRng1, a_iRng2, a_iEn, a_iZp, a_iLst, a_Lc, a_Mut, a_Put, a_DPut, a_FldS, a_Tried, a_Make, a_LenO, a_ForD0, a_getC, a_setC, a_frzR, bind_ok', bind_exc, bind_bad, bind_ite, andS_ok, andS_exc, andS_bad, andS_ite, of_some, of_none, of_ite, sq_nx, sq_ret, sq_brk, sq_cnt, sq_exc, sq_bad, sq_ite, out_ret, out_nxF, out_exc, out_ite, back_ok, back_exc, back_ite, selB_bl, selB_ite, g_N, g_Tt, g_Tl, g_nil, g_cons, dLt_i, dLe_i, dGt_i, dGe_i, dAdd_i, dSub_i, dNeg_i, dIx_l, dIx_t, cLen_l, cLen_t, cList_l, cList_t, cTuple_l, cTuple_t, cMin_i, cMax_i, atI_zero, atI_one, atI_2, atI_3, atI_4, atI_5, atI_nt, atI_lst, dEq_pl, dNe_pl, dEq_bl, dNe_bl, dIsN_non, dIsN_int, dIsN_str, dIsN_lst, dIsN_tup, dIsN_bl, dNotN_non, dNotN_int, dNotN_str, dNotN_lst, dNotN_tup, dNotN_bl, sqS_l, sqS_t, enS_l, enS_t, noIo, isLst, wipeR, isi_list_n, isi_list_b, isi_list_i, isi_list_s, isi_list_l, isi_list_t, isi_tuple_n, isi_tuple_b, isi_tuple_i, isi_tuple_s, isi_tuple_l, isi_tuple_t, isi_bool_n, isi_bool_b, isi_bool_i, isi_bool_s, isi_bool_l, isi_bool_t, isi_int_n, isi_int_b, isi_int_i, isi_int_s, isi_int_l, isi_int_t, isi_str_n, isi_str_b, isi_str_i, isi_str_s, isi_str_l, isi_str_t, List.foldr_cons, List.foldr_nil, List.getElem?_cons_zero, List.getElem?_cons_succ, List.set_cons_zero, List.set_cons_succ, List.length_cons, List.length_nil, List.replicate_succ, List.replicate_zero, List.cons_append, List.nil_append, List.map_cons, List.map_nil, Nat.reduceAdd, Nat.reduceSub, Nat.reduceLeDiff, Nat.reduceLT, sizeLine_val, ite_true, ite_false, if_true, if_false, Bool.false_eq_true, Bool.true_eq_false, decide_eq_true_eq, Bool.not_eq_true', Bool.not_true, Bool.not_false, decide_true, decide_false, decide_eq_false_iff_not, D.int.injEq, D.str.injEq, D.bl.injEq, reduceCtorEq, Int.cast_ofNat_Int, Int.reduceNeg, Int.reducePow, Int.reduceLE, Int.reduceLT, Int.reduceToNat, and_self, Int.reduceEq, Int.reduceNe, Nat.reduceEqDiff, not_false_eq_true, not_true_eq_false, Int.toNat_natCast, List.range_succ, List.range_zero, a_turn, nxP_nx, nxP_cnt, nxP_ite, ↓reduceIte, List.getElem?_map, hi, Option.map_some, tri]
      simp [edOk] at hp
      (repeat' split) <;> first | rfl | (exfalso; omega)
    · simp [edOk] at hp
      simp only [lb_l_rough_fault_0, a_kBin2, a_kBin, a_kUn, a_kIfE, a_kAndT, a_kOrT, a_kNotT, a_kCons2, a_kCons, a_kCallB, a_kTup, a_kLst, a_kDrop, a_kRet, a_kIfS, a_kSet, a_kSetF, a_kFor, a_kPar2, a_kPar, a_kAnd, a_kOr, a_kNot, a_kCh3, a_kCh2, a_kCh1, a_kSl3, a_kSl2, a_kSl1, a_koSo, a_kOfL, a_krC2, a_krC, a_krIo, a_krDef, a_kCall, a_kCallIo, a_kRaise, a_ktOf, a_kTgt, a_kRng1, a_kRng2, a_kEn, a_kZp2, a_kZp, a_kiLst, a_kLc2, a_kLc, a_kMut, a_kPut2, a_kPut, a_kDPut2, a_kDPut, a_kFldS, a_kMake, a_kLenO, a_runB, a_C, a_Bin, a_Un, a_If, a_tAnd, a_tOr, a_tNot, a_tYes, a_Nil, a_Cons, a_CallB, a_Tup, a_Lst, a_Next, a_Brk, a_Cnt, a_Bad, a_Seq, a_Drop, a_Ret, a_sIf, a_Set, a_SetF, a_Frz, a_For, a_Par, a_AndS, a_OrS, a_Not, a_ChainS, a_Sl, a_oNo, a_oSo, a_iSqS, a_iEnS, a_rNil, a_rCons, a_rDef, a_rIo, a_CallIo, a_Call, a_Raise, a_Var, a_VarB, a_tOf, a_Tgt, a_RetOwn, a_IoIx, a_iRng1, a_iRng2, a_iEn, a_iZp, a_iLst, a_Lc, a_Mut, a_Put, a_DPut, a_FldS, a_Tried, a_Make, a_LenO, a_ForD0, a_getC, a_setC, a_frzR, bind_ok', bind_exc, bind_bad, bind_ite, andS_ok, andS_exc, andS_bad, andS_ite, of_some, of_none, of_ite, sq_nx, sq_ret, sq_brk, sq_cnt, sq_exc, sq_bad, sq_ite, out_ret, out_nxF, out_exc, out_ite, back_ok, back_exc, back_ite, selB_bl, selB_ite, g_N, g_Tt, g_Tl, g_nil, g_cons, dLt_i, dLe_i, dGt_i, dGe_i, dAdd_i, dSub_i, dNeg_i, dIx_l, dIx_t, cLen_l, cLen_t, cList_l, cList_t, cTuple_l, cTuple_t, cMin_i, cMax_i, atI_zero, atI_one, atI_2, atI_3, atI_4, atI_5, atI_nt, atI_lst, dEq_pl, dNe_pl, dEq_bl, dNe_bl, dIsN_non, dIsN_int, dIsN_str, dIsN_lst, dIsN_tup, dIsN_bl, dNotN_non, dNotN_int, dNotN_str, dNotN_lst, dNotN_tup, dNotN_bl, sqS_l, sqS_t, enS_l, enS_t, noIo, isLst, wipeR, isi_list_n, isi_list_b, isi_list_i, isi_list_s, isi_list_l, isi_list_t, isi_tuple_n, isi_tuple_b, isi_tuple_i, isi_tuple_s, isi_tuple_l, isi_tuple_t, isi_bool_n, isi_bool_b, isi_bool_i, isi_bool_s, isi_bool_l, isi_bool_t, isi_int_n, isi_int_b, isi_int_i, isi_int_s, isi_int_l, isi_int_t, isi_str_n, isi_str_b, isi_str_i, isi_str_s, isi_str_l, isi_str_t, List.foldr_cons, List.foldr_nil, List.getElem?_cons_zero, List.getElem?_cons_succ, List.set_cons_zero, List.set_cons_succ, List.length_cons, List.length_nil, List.replicate_succ, List.replicate_zero, List.cons_append, List.nil_append, List.map_cons, List.map_nil, Nat.reduceAdd, Nat.reduceSub, Nat.reduceLeDiff, Nat.reduceLT, sizeLine_val, ite_true, ite_false, if_true, if_false, Bool.false_eq_true, Bool.true_eq_false, decide_eq_true_eq, Bool.not_eq_true', Bool.not_true, Bool.not_false, decide_true, decide_false, decide_eq_false_iff_not, D.int.injEq, D.str.injEq, D.bl.injEq, reduceCtorEq, Int.cast_ofNat_Int, Int.reduceNeg, Int.reducePow, Int.reduceLE, Int.reduceLT, Int.reduceToNat, and_self, Int.reduceEq, Int.reduceNe, Nat.reduceEqDiff, not_false_eq_true, not_true_eq_false, Int.toNat_natCast, List.range_succ, List.range_zero, a_turn, nxP_nx, nxP_cnt, nxP_ite, ↓reduceIte, List.getElem?_map, hi, Option.map_some, tri, hp]
      exact ⟨trivial, _, _, _, _, rfl⟩
/-- the entries of k03: none, or one of one number -/
theorem rough_0 (c n : Int) (L : List Ed) (hl : L.length < 1000) : m_l_rough_fault [.fz (.tup [.int c, .int n, .lst (L.map tri), .lst []])] [] = .ok (efD (ef c n L)) [] := by
    obtain ⟨k1, k2⟩ := rough_loop c n L hl []
    simp (disch := omega) only [m_l_rough_fault, b_l_rough_fault, a_kBin2, a_kBin, a_kUn, a_kIfE, a_kAndT, a_kOrT, a_kNotT, a_kCons2, a_kCons, a_kCallB, a_kTup, a_kLst, a_kDrop, a_kRet, a_kIfS, a_kSet, a_kSetF, a_kFor, a_kPar2, a_kPar, a_kAnd, a_kOr, a_kNot, a_kCh3, a_kCh2, a_kCh1, a_kSl3, a_kSl2, a_kSl1, a_koSo, a_kOfL, a_krC2, a_krC, a_krIo, a_krDef, a_kCall, a_kCallIo, a_kRaise, a_ktOf, a_kTgt, a_kRng1, a_kRng2, a_kEn, a_kZp2, a_kZp, a_kiLst, a_kLc2, a_kLc, a_kMut, a_kPut2, a_kPut, a_kDPut2, a_kDPut, a_kFldS, a_kMake, a_kLenO, a_runB, a_C, a_Bin, a_Un, a_If, a_tAnd, a_tOr, a_tNot, a_tYes, a_Nil, a_Cons, a_CallB, a_Tup, a_Lst, a_Next, a_Brk, a_Cnt, a_Bad, a_Seq, a_Drop, a_Ret, a_sIf, a_Set, a_SetF, a_Frz, a_For, a_Par, a_AndS, a_OrS, a_Not, a_ChainS, a_Sl, a_oNo, a_oSo, a_iSqS, a_iEnS, a_rNil, a_rCons, a_rDef, a_rIo, a_CallIo, a_Call, a_Raise, a_Var, a_VarB, a_tOf, a_Tgt, a_RetOwn, a_IoIx, a_iRng1, a_iRng2, a_iEn, a_iZp, a_iLst, a_Lc, a_Mut, a_Put, a_DPut, a_FldS, a_Tried, a_Make, a_LenO, a_ForD0, a_getC, a_setC, a_frzR, bind_ok', bind_exc, bind_bad, bind_ite, andS_ok, andS_exc, andS_bad, andS_ite, of_some, of_none, of_ite, sq_nx, sq_ret, sq_brk, sq_cnt, sq_exc, sq_bad, sq_ite, out_ret, out_nxF, out_exc, out_ite, back_ok, back_exc, back_ite, selB_bl, selB_ite, g_N, g_Tt, g_Tl, g_nil, g_cons, dLt_i, dLe_i, dGt_i, dGe_i, dAdd_i, dSub_i, dNeg_i, dIx_l, dIx_t, cLen_l, cLen_t, cList_l, cList_t, cTuple_l, cTuple_t, cMin_i, cMax_i, atI_zero, atI_one, atI_2, atI_3, atI_4, atI_5, atI_nt, atI_lst, dEq_pl, dNe_pl, dEq_bl, dNe_bl, dIsN_non, dIsN_int, dIsN_str, dIsN_lst, dIsN_tup, dIsN_bl, dNotN_non, dNotN_int, dNotN_str, dNotN_lst, dNotN_tup, dNotN_bl, sqS_l, sqS_t, enS_l, enS_t, noIo, isLst, wipeR, isi_list_n, isi_list_b, isi_list_i, isi_list_s, isi_list_l, isi_list_t, isi_tuple_n, isi_tuple_b, isi_tuple_i, isi_tuple_s, isi_tuple_l, isi_tuple_t, isi_bool_n, isi_bool_b, isi_bool_i, isi_bool_s, isi_bool_l, isi_bool_t, isi_int_n, isi_int_b, isi_int_i, isi_int_s, isi_int_l, isi_int_t, isi_str_n, isi_str_b, isi_str_i, isi_str_s, isi_str_l, isi_str_t, List.foldr_cons, List.foldr_nil, List.getElem?_cons_zero, List.getElem?_cons_succ, List.set_cons_zero, List.set_cons_succ, List.length_cons, List.length_nil, List.replicate_succ, List.replicate_zero, List.cons_append, List.nil_append, List.map_cons, List.map_nil, Nat.reduceAdd, Nat.reduceSub, Nat.reduceLeDiff, Nat.reduceLT, sizeLine_val, ite_true, ite_false, if_true, if_false, Bool.false_eq_true, Bool.true_eq_false, decide_eq_true_eq, Bool.not_eq_true', Bool.not_true, Bool.not_false, decide_true, decide_false, decide_eq_false_iff_not, D.int.injEq, D.str.injEq, D.bl.injEq, reduceCtorEq, Int.cast_ofNat_Int, Int.reduceNeg, Int.reducePow, Int.reduceLE, Int.reduceLT, Int.reduceToNat, and_self, Int.reduceEq, Int.reduceNe, Nat.reduceEqDiff, not_false_eq_true, not_true_eq_false, Int.toNat_natCast, List.range_succ, List.range_zero, a_turn, nxP_nx, nxP_cnt, nxP_ite, ↓reduceIte, List.length_map, rng_if, range_zip]
    cases he : ef c n L with
    | none =>
      obtain ⟨ρ2, h3, x, y, z, w, rfl⟩ := k1 he
      simp only [h3, a_kBin2, a_kBin, a_kUn, a_kIfE, a_kAndT, a_kOrT, a_kNotT, a_kCons2, a_kCons, a_kCallB, a_kTup, a_kLst, a_kDrop, a_kRet, a_kIfS, a_kSet, a_kSetF, a_kFor, a_kPar2, a_kPar, a_kAnd, a_kOr, a_kNot, a_kCh3, a_kCh2, a_kCh1, a_kSl3, a_kSl2, a_kSl1, a_koSo, a_kOfL, a_krC2, a_krC, a_krIo, a_krDef, a_kCall, a_kCallIo, a_kRaise, a_ktOf, a_kTgt, a_kRng1, a_kRng2, a_kEn, a_kZp2, a_kZp, a_kiLst, a_kLc2, a_kLc, a_kMut, a_kPut2, a_kPut, a_kDPut2, a_kDPut, a_kFldS, a_kMake, a_kLenO, a_runB, a_C, a_Bin, a_Un, a_If, a_tAnd, a_tOr, a_tNot, a_tYes, a_Nil, a_Cons, a_CallB, a_Tup, a_Lst, a_Next, a_Brk, a_Cnt, a_Bad, a_Seq, a_Drop, a_Ret, a_sIf, a_Set, a_SetF, a_Frz, a_For, a_Par, a_AndS, a_OrS, a_Not, a_ChainS, a_Sl, a_oNo, a_oSo, a_iSqS, a_iEnS, a_rNil, a_rCons, a_rDef, a_rIo, a_CallIo, a_Call, a_Raise, a_Var, a_VarB, a_tOf, a_Tgt, a_RetOwn, a_IoIx, a_iRng1, a_iRng2, a_iEn, a_iZp, a_iLst, a_Lc, a_Mut, a_Put, a_DPut, a_FldS, a_Tried, a_Make, a_LenO, a_ForD0, a_getC, a_setC, a_frzR, bind_ok', bind_exc, bind_bad, bind_ite, andS_ok, andS_exc, andS_bad, andS_ite, of_some, of_none, of_ite, sq_nx, sq_ret, sq_brk, sq_cnt, sq_exc, sq_bad, sq_ite, out_ret, out_nxF, out_exc, out_ite, back_ok, back_exc, back_ite, selB_bl, selB_ite, g_N, g_Tt, g_Tl, g_nil, g_cons, dLt_i, dLe_i, dGt_i, dGe_i, dAdd_i, dSub_i, dNeg_i, dIx_l, dIx_t, cLen_l, cLen_t, cList_l, cList_t, cTuple_l, cTuple_t, cMin_i, cMax_i, atI_zero, atI_one, atI_2, atI_3, atI_4, atI_5, atI_nt, atI_lst, dEq_pl, dNe_pl, dEq_bl, dNe_bl, dIsN_non, dIsN_int, dIsN_str, dIsN_lst, dIsN_tup, dIsN_bl, dNotN_non, dNotN_int, dNotN_str, dNotN_lst, dNotN_tup, dNotN_bl, sqS_l, sqS_t, enS_l, enS_t, noIo, isLst, wipeR, isi_list_n, isi_list_b, isi_list_i, isi_list_s, isi_list_l, isi_list_t, isi_tuple_n, isi_tuple_b, isi_tuple_i, isi_tuple_s, isi_tuple_l, isi_tuple_t, isi_bool_n, isi_bool_b, isi_bool_i, isi_bool_s, isi_bool_l, isi_bool_t, isi_int_n, isi_int_b, isi_int_i, isi_int_s, isi_int_l, isi_int_t, isi_str_n, isi_str_b, isi_str_i, isi_str_s, isi_str_l, isi_str_t, List.foldr_cons, List.foldr_nil, List.getElem?_cons_zero, List.getElem?_cons_succ, List.set_cons_zero, List.set_cons_succ, List.length_cons, List.length_nil, List.replicate_succ, List.replicate_zero, List.cons_append, List.nil_append, List.map_cons, List.map_nil, Nat.reduceAdd, Nat.reduceSub, Nat.reduceLeDiff, Nat.reduceLT, sizeLine_val, ite_true, ite_false, if_true, if_false, Bool.false_eq_true, Bool.true_eq_false, decide_eq_true_eq, Bool.not_eq_true', Bool.not_true, Bool.not_false, decide_true, decide_false, decide_eq_false_iff_not, D.int.injEq, D.str.injEq, D.bl.injEq, reduceCtorEq, Int.cast_ofNat_Int, Int.reduceNeg, Int.reducePow, Int.reduceLE, Int.reduceLT, Int.reduceToNat, and_self, Int.reduceEq, Int.reduceNe, Nat.reduceEqDiff, not_false_eq_true, not_true_eq_false, Int.toNat_natCast, List.range_succ, List.range_zero, a_turn, nxP_nx, nxP_cnt, nxP_ite, ↓reduceIte, for_nil, efD]
    | some i =>
      simp only [k2 i he, a_kBin2, a_kBin, a_kUn, a_kIfE, a_kAndT, a_kOrT, a_kNotT, a_kCons2, a_kCons, a_kCallB, a_kTup, a_kLst, a_kDrop, a_kRet, a_kIfS, a_kSet, a_kSetF, a_kFor, a_kPar2, a_kPar, a_kAnd, a_kOr, a_kNot, a_kCh3, a_kCh2, a_kCh1, a_kSl3, a_kSl2, a_kSl1, a_koSo, a_kOfL, a_krC2, a_krC, a_krIo, a_krDef, a_kCall, a_kCallIo, a_kRaise, a_ktOf, a_kTgt, a_kRng1, a_kRng2, a_kEn, a_kZp2, a_kZp, a_kiLst, a_kLc2, a_kLc, a_kMut, a_kPut2, a_kPut, a_kDPut2, a_kDPut, a_kFldS, a_kMake, a_kLenO, a_runB, a_C, a_Bin, a_Un, a_If, a_tAnd, a_tOr, a_tNot, a_tYes, a_Nil, a_Cons, a_CallB, a_Tup, a_Lst, a_Next, a_Brk, a_Cnt, a_Bad, a_Seq, a_Drop, a_Ret, a_sIf, a_Set, a_SetF, a_Frz, a_For, a_Par, a_AndS, a_OrS, a_Not, a_ChainS, a_Sl, a_oNo, a_oSo, a_iSqS, a_iEnS, a_rNil, a_rCons, a_rDef, a_rIo, a_CallIo, a_Call, a_Raise, a_Var, a_VarB, a_tOf, a_Tgt, a_RetOwn, a_IoIx, a_iRng1, a_iRng2, a_iEn, a_iZp, a_iLst, a_Lc, a_Mut, a_Put, a_DPut, a_FldS, a_Tried, a_Make, a_LenO, a_ForD0, a_getC, a_setC, a_frzR, bind_ok', bind_exc, bind_bad, bind_ite, andS_ok, andS_exc, andS_bad, andS_ite, of_some, of_none, of_ite, sq_nx, sq_ret, sq_brk, sq_cnt, sq_exc, sq_bad, sq_ite, out_ret, out_nxF, out_exc, out_ite, back_ok, back_exc, back_ite, selB_bl, selB_ite, g_N, g_Tt, g_Tl, g_nil, g_cons, dLt_i, dLe_i, dGt_i, dGe_i, dAdd_i, dSub_i, dNeg_i, dIx_l, dIx_t, cLen_l, cLen_t, cList_l, cList_t, cTuple_l, cTuple_t, cMin_i, cMax_i, atI_zero, atI_one, atI_2, atI_3, atI_4, atI_5, atI_nt, atI_lst, dEq_pl, dNe_pl, dEq_bl, dNe_bl, dIsN_non, dIsN_int, dIsN_str, dIsN_lst, dIsN_tup, dIsN_bl, dNotN_non, dNotN_int, dNotN_str, dNotN_lst, dNotN_tup, dNotN_bl, sqS_l, sqS_t, enS_l, enS_t, noIo, isLst, wipeR, isi_list_n, isi_list_b, isi_list_i, isi_list_s, isi_list_l, isi_list_t, isi_tuple_n, isi_tuple_b, isi_tuple_i, isi_tuple_s, isi_tuple_l, isi_tuple_t, isi_bool_n, isi_bool_b, isi_bool_i, isi_bool_s, isi_bool_l, isi_bool_t, isi_int_n, isi_int_b, isi_int_i, isi_int_s, isi_int_l, isi_int_t, isi_str_n, isi_str_b, isi_str_i, isi_str_s, isi_str_l, isi_str_t, List.foldr_cons, List.foldr_nil, List.getElem?_cons_zero, List.getElem?_cons_succ, List.set_cons_zero, List.set_cons_succ, List.length_cons, List.length_nil, List.replicate_succ, List.replicate_zero, List.cons_append, List.nil_append, List.map_cons, List.map_nil, Nat.reduceAdd, Nat.reduceSub, Nat.reduceLeDiff, Nat.reduceLT, sizeLine_val, ite_true, ite_false, if_true, if_false, Bool.false_eq_true, Bool.true_eq_false, decide_eq_true_eq, Bool.not_eq_true', Bool.not_true, Bool.not_false, decide_true, decide_false, decide_eq_false_iff_not, D.int.injEq, D.str.injEq, D.bl.injEq, reduceCtorEq, Int.cast_ofNat_Int, Int.reduceNeg, Int.reducePow, Int.reduceLE, Int.reduceLT, Int.reduceToNat, and_self, Int.reduceEq, Int.reduceNe, Nat.reduceEqDiff, not_false_eq_true, not_true_eq_false, Int.toNat_natCast, List.range_succ, List.range_zero, a_turn, nxP_nx, nxP_cnt, nxP_ite, ↓reduceIte, efD, Nat.zero_add]
theorem rough_1 (c n : Int) (L : List Ed) (hl : L.length < 1000) : m_l_rough_fault [.fz (.tup [.int c, .int n, .lst (L.map tri), .lst [.tup [.int 9]]])] [] = .ok (match ef c n L with | some i => efD (some i) | none => .tup [.str "swap", .int 0]) [] := by
    obtain ⟨k1, k2⟩ := rough_loop c n L hl [.tup [.int 9]]
    have hs : m_l_is_entry [.fz (.lst (L.map tri)), .fz (.tup [.int 9])] [] = .ok (.bl false) [] := by
      simp only [m_l_is_entry, b_l_is_entry, a_kBin2, a_kBin, a_kUn, a_kIfE, a_kAndT, a_kOrT, a_kNotT, a_kCons2, a_kCons, a_kCallB, a_kTup, a_kLst, a_kDrop, a_kRet, a_kIfS, a_kSet, a_kSetF, a_kFor, a_kPar2, a_kPar, a_kAnd, a_kOr, a_kNot, a_kCh3, a_kCh2, a_kCh1, a_kSl3, a_kSl2, a_kSl1, a_koSo, a_kOfL, a_krC2, a_krC, a_krIo, a_krDef, a_kCall, a_kCallIo, a_kRaise, a_ktOf, a_kTgt, a_kRng1, a_kRng2, a_kEn, a_kZp2, a_kZp, a_kiLst, a_kLc2, a_kLc, a_kMut, a_kPut2, a_kPut, a_kDPut2, a_kDPut, a_kFldS, a_kMake, a_kLenO, a_runB, a_C, a_Bin, a_Un, a_If, a_tAnd, a_tOr, a_tNot, a_tYes, a_Nil, a_Cons, a_CallB, a_Tup, a_Lst, a_Next, a_Brk, a_Cnt, a_Bad, a_Seq, a_Drop, a_Ret, a_sIf, a_Set, a_SetF, a_Frz, a_For, a_Par, a_AndS, a_OrS, a_Not, a_ChainS, a_Sl, a_oNo, a_oSo, a_iSqS, a_iEnS, a_rNil, a_rCons, a_rDef, a_rIo, a_CallIo, a_Call, a_Raise, a_Var, a_VarB, a_tOf, a_Tgt, a_RetOwn, a_IoIx, a_iRng1, a_iRng2, a_iEn, a_iZp, a_iLst, a_Lc, a_Mut, a_Put, a_DPut, a_FldS, a_Tried, a_Make, a_LenO, a_ForD0, a_getC, a_setC, a_frzR, bind_ok', bind_exc, bind_bad, bind_ite, andS_ok, andS_exc, andS_bad, andS_ite, of_some, of_none, of_ite, sq_nx, sq_ret, sq_brk, sq_cnt, sq_exc, sq_bad, sq_ite, out_ret, out_nxF, out_exc, out_ite, back_ok, back_exc, back_ite, selB_bl, selB_ite, g_N, g_Tt, g_Tl, g_nil, g_cons, dLt_i, dLe_i, dGt_i, dGe_i, dAdd_i, dSub_i, dNeg_i, dIx_l, dIx_t, cLen_l, cLen_t, cList_l, cList_t, cTuple_l, cTuple_t, cMin_i, cMax_i, atI_zero, atI_one, atI_2, atI_3, atI_4, atI_5, atI_nt, atI_lst, dEq_pl, dNe_pl, dEq_bl, dNe_bl, dIsN_non, dIsN_int, dIsN_str, dIsN_lst, dIsN_tup, dIsN_bl, dNotN_non, dNotN_int, dNotN_str, dNotN_lst, dNotN_tup, dNotN_bl, sqS_l, sqS_t, enS_l, enS_t, noIo, isLst, wipeR, isi_list_n, isi_list_b, isi_list_i, isi_list_s, isi_list_l, isi_list_t, isi_tuple_n, isi_tuple_b, isi_tuple_i, isi_tuple_s, isi_tuple_l, isi_tuple_t, isi_bool_n, isi_bool_b, isi_bool_i, isi_bool_s, isi_bool_l, isi_bool_t, isi_int_n, isi_int_b, isi_int_i, isi_int_s, isi_int_l, isi_int_t, isi_str_n, isi_str_b, isi_str_i, isi_str_s, isi_str_l, isi_str_t, List.foldr_cons, List.foldr_nil, List.getElem?_cons_zero, List.getElem?_cons_succ, List.set_cons_zero, List.set_cons_succ, List.length_cons, List.length_nil, List.replicate_succ, List.replicate_zero, List.cons_append, List.nil_append, List.map_cons, List.map_nil, Nat.reduceAdd, Nat.reduceSub, Nat.reduceLeDiff, Nat.reduceLT, sizeLine_val, ite_true, ite_false, if_true, if_false, Bool.false_eq_true, Bool.true_eq_false, decide_eq_true_eq, Bool.not_eq_true', Bool.not_true, Bool.not_false, decide_true, decide_false, decide_eq_false_iff_not, D.int.injEq, D.str.injEq, D.bl.injEq, reduceCtorEq, Int.cast_ofNat_Int, Int.reduceNeg, Int.reducePow, Int.reduceLE, Int.reduceLT, Int.reduceToNat, and_self, Int.reduceEq, Int.reduceNe, Nat.reduceEqDiff, not_false_eq_true, not_true_eq_false, Int.toNat_natCast, List.range_succ, List.range_zero, a_turn, nxP_nx, nxP_cnt, nxP_ite, ↓reduceIte, D.int.injEq]
    simp (disch := omega) only [m_l_rough_fault, b_l_rough_fault, a_kBin2, a_kBin, a_kUn, a_kIfE, a_kAndT, a_kOrT, a_kNotT, a_kCons2, a_kCons, a_kCallB, a_kTup, a_kLst, a_kDrop, a_kRet, a_kIfS, a_kSet, a_kSetF, a_kFor, a_kPar2, a_kPar, a_kAnd, a_kOr, a_kNot, a_kCh3, a_kCh2, a_kCh1, a_kSl3, a_kSl2, a_kSl1, a_koSo, a_kOfL, a_krC2, a_krC, a_krIo, a_krDef, a_kCall, a_kCallIo, a_kRaise, a_ktOf, a_kTgt, a_kRng1, a_kRng2, a_kEn, a_kZp2, a_kZp, a_kiLst, a_kLc2, a_kLc, a_kMut, a_kPut2, a_kPut, a_kDPut2, a_kDPut, a_kFldS, a_kMake, a_kLenO, a_runB, a_C, a_Bin, a_Un, a_If, a_tAnd, a_tOr, a_tNot, a_tYes, a_Nil, a_Cons, a_CallB, a_Tup, a_Lst, a_Next, a_Brk, a_Cnt, a_Bad, a_Seq, a_Drop, a_Ret, a_sIf, a_Set, a_SetF, a_Frz, a_For, a_Par, a_AndS, a_OrS, a_Not, a_ChainS, a_Sl, a_oNo, a_oSo, a_iSqS, a_iEnS, a_rNil, a_rCons, a_rDef, a_rIo, a_CallIo, a_Call, a_Raise, a_Var, a_VarB, a_tOf, a_Tgt, a_RetOwn, a_IoIx, a_iRng1, a_iRng2, a_iEn, a_iZp, a_iLst, a_Lc, a_Mut, a_Put, a_DPut, a_FldS, a_Tried, a_Make, a_LenO, a_ForD0, a_getC, a_setC, a_frzR, bind_ok', bind_exc, bind_bad, bind_ite, andS_ok, andS_exc, andS_bad, andS_ite, of_some, of_none, of_ite, sq_nx, sq_ret, sq_brk, sq_cnt, sq_exc, sq_bad, sq_ite, out_ret, out_nxF, out_exc, out_ite, back_ok, back_exc, back_ite, selB_bl, selB_ite, g_N, g_Tt, g_Tl, g_nil, g_cons, dLt_i, dLe_i, dGt_i, dGe_i, dAdd_i, dSub_i, dNeg_i, dIx_l, dIx_t, cLen_l, cLen_t, cList_l, cList_t, cTuple_l, cTuple_t, cMin_i, cMax_i, atI_zero, atI_one, atI_2, atI_3, atI_4, atI_5, atI_nt, atI_lst, dEq_pl, dNe_pl, dEq_bl, dNe_bl, dIsN_non, dIsN_int, dIsN_str, dIsN_lst, dIsN_tup, dIsN_bl, dNotN_non, dNotN_int, dNotN_str, dNotN_lst, dNotN_tup, dNotN_bl, sqS_l, sqS_t, enS_l, enS_t, noIo, isLst, wipeR, isi_list_n, isi_list_b, isi_list_i, isi_list_s, isi_list_l, isi_list_t, isi_tuple_n, isi_tuple_b, isi_tuple_i, isi_tuple_s, isi_tuple_l, isi_tuple_t, isi_bool_n, isi_bool_b, isi_bool_i, isi_bool_s, isi_bool_l, isi_bool_t, isi_int_n, isi_int_b, isi_int_i, isi_int_s, isi_int_l, isi_int_t, isi_str_n, isi_str_b, isi_str_i, isi_str_s, isi_str_l, isi_str_t, List.foldr_cons, List.foldr_nil, List.getElem?_cons_zero, List.getElem?_cons_succ, List.set_cons_zero, List.set_cons_succ, List.length_cons, List.length_nil, List.replicate_succ, List.replicate_zero, List.cons_append, List.nil_append, List.map_cons, List.map_nil, Nat.reduceAdd, Nat.reduceSub, Nat.reduceLeDiff, Nat.reduceLT, sizeLine_val, ite_true, ite_false, if_true, if_false, Bool.false_eq_true, Bool.true_eq_false, decide_eq_true_eq, Bool.not_eq_true', Bool.not_true, Bool.not_false, decide_true, decide_false, decide_eq_false_iff_not, D.int.injEq, D.str.injEq, D.bl.injEq, reduceCtorEq, Int.cast_ofNat_Int, Int.reduceNeg, Int.reducePow, Int.reduceLE, Int.reduceLT, Int.reduceToNat, and_self, Int.reduceEq, Int.reduceNe, Nat.reduceEqDiff, not_false_eq_true, not_true_eq_false, Int.toNat_natCast, List.range_succ, List.range_zero, a_turn, nxP_nx, nxP_cnt, nxP_ite, ↓reduceIte, List.length_map, rng_if, range_zip]
    cases he : ef c n L with
    | none =>
      obtain ⟨ρ2, h3, x, y, z, w, rfl⟩ := k1 he
      simp only [h3, a_kBin2, a_kBin, a_kUn, a_kIfE, a_kAndT, a_kOrT, a_kNotT, a_kCons2, a_kCons, a_kCallB, a_kTup, a_kLst, a_kDrop, a_kRet, a_kIfS, a_kSet, a_kSetF, a_kFor, a_kPar2, a_kPar, a_kAnd, a_kOr, a_kNot, a_kCh3, a_kCh2, a_kCh1, a_kSl3, a_kSl2, a_kSl1, a_koSo, a_kOfL, a_krC2, a_krC, a_krIo, a_krDef, a_kCall, a_kCallIo, a_kRaise, a_ktOf, a_kTgt, a_kRng1, a_kRng2, a_kEn, a_kZp2, a_kZp, a_kiLst, a_kLc2, a_kLc, a_kMut, a_kPut2, a_kPut, a_kDPut2, a_kDPut, a_kFldS, a_kMake, a_kLenO, a_runB, a_C, a_Bin, a_Un, a_If, a_tAnd, a_tOr, a_tNot, a_tYes, a_Nil, a_Cons, a_CallB, a_Tup, a_Lst, a_Next, a_Brk, a_Cnt, a_Bad, a_Seq, a_Drop, a_Ret, a_sIf, a_Set, a_SetF, a_Frz, a_For, a_Par, a_AndS, a_OrS, a_Not, a_ChainS, a_Sl, a_oNo, a_oSo, a_iSqS, a_iEnS, a_rNil, a_rCons, a_rDef, a_rIo, a_CallIo, a_Call, a_Raise, a_Var, a_VarB, a_tOf, a_Tgt, a_RetOwn, a_IoIx, a_iRng1, a_iRng2, a_iEn, a_iZp, a_iLst, a_Lc, a_Mut, a_Put, a_DPut, a_FldS, a_Tried, a_Make, a_LenO, a_ForD0, a_getC, a_setC, a_frzR, bind_ok', bind_exc, bind_bad, bind_ite, andS_ok, andS_exc, andS_bad, andS_ite, of_some, of_none, of_ite, sq_nx, sq_ret, sq_brk, sq_cnt, sq_exc, sq_bad, sq_ite, out_ret, out_nxF, out_exc, out_ite, back_ok, back_exc, back_ite, selB_bl, selB_ite, g_N, g_Tt, g_Tl, g_nil, g_cons, dLt_i, dLe_i, dGt_i, dGe_i, dAdd_i, dSub_i, dNeg_i, dIx_l, dIx_t, cLen_l, cLen_t, cList_l, cList_t, cTuple_l, cTuple_t, cMin_i, cMax_i, atI_zero, atI_one, atI_2, atI_3, atI_4, atI_5, atI_nt, atI_lst, dEq_pl, dNe_pl, dEq_bl, dNe_bl, dIsN_non, dIsN_int, dIsN_str, dIsN_lst, dIsN_tup, dIsN_bl, dNotN_non, dNotN_int, dNotN_str, dNotN_lst, dNotN_tup, dNotN_bl, sqS_l, sqS_t, enS_l, enS_t, noIo, isLst, wipeR, isi_list_n, isi_list_b, isi_list_i, isi_list_s, isi_list_l, isi_list_t, isi_tuple_n, isi_tuple_b, isi_tuple_i, isi_tuple_s, isi_tuple_l, isi_tuple_t, isi_bool_n, isi_bool_b, isi_bool_i, isi_bool_s, isi_bool_l, isi_bool_t, isi_int_n, isi_int_b, isi_int_i, isi_int_s, isi_int_l, isi_int_t, isi_str_n, isi_str_b, isi_str_i, isi_str_s, isi_str_l, isi_str_t, List.foldr_cons, List.foldr_nil, List.getElem?_cons_zero, List.getElem?_cons_succ, List.set_cons_zero, List.set_cons_succ, List.length_cons, List.length_nil, List.replicate_succ, List.replicate_zero, List.cons_append, List.nil_append, List.map_cons, List.map_nil, Nat.reduceAdd, Nat.reduceSub, Nat.reduceLeDiff, Nat.reduceLT, sizeLine_val, ite_true, ite_false, if_true, if_false, Bool.false_eq_true, Bool.true_eq_false, decide_eq_true_eq, Bool.not_eq_true', Bool.not_true, Bool.not_false, decide_true, decide_false, decide_eq_false_iff_not, D.int.injEq, D.str.injEq, D.bl.injEq, reduceCtorEq, Int.cast_ofNat_Int, Int.reduceNeg, Int.reducePow, Int.reduceLE, Int.reduceLT, Int.reduceToNat, and_self, Int.reduceEq, Int.reduceNe, Nat.reduceEqDiff, not_false_eq_true, not_true_eq_false, Int.toNat_natCast, List.range_succ, List.range_zero, a_turn, nxP_nx, nxP_cnt, nxP_ite, ↓reduceIte, for_nil, for_turn, lb_l_rough_fault_1, hs, efD, lp_ret]
    | some i =>
      simp only [k2 i he, a_kBin2, a_kBin, a_kUn, a_kIfE, a_kAndT, a_kOrT, a_kNotT, a_kCons2, a_kCons, a_kCallB, a_kTup, a_kLst, a_kDrop, a_kRet, a_kIfS, a_kSet, a_kSetF, a_kFor, a_kPar2, a_kPar, a_kAnd, a_kOr, a_kNot, a_kCh3, a_kCh2, a_kCh1, a_kSl3, a_kSl2, a_kSl1, a_koSo, a_kOfL, a_krC2, a_krC, a_krIo, a_krDef, a_kCall, a_kCallIo, a_kRaise, a_ktOf, a_kTgt, a_kRng1, a_kRng2, a_kEn, a_kZp2, a_kZp, a_kiLst, a_kLc2, a_kLc, a_kMut, a_kPut2, a_kPut, a_kDPut2, a_kDPut, a_kFldS, a_kMake, a_kLenO, a_runB, a_C, a_Bin, a_Un, a_If, a_tAnd, a_tOr, a_tNot, a_tYes, a_Nil, a_Cons, a_CallB, a_Tup, a_Lst, a_Next, a_Brk, a_Cnt, a_Bad, a_Seq, a_Drop, a_Ret, a_sIf, a_Set, a_SetF, a_Frz, a_For, a_Par, a_AndS, a_OrS, a_Not, a_ChainS, a_Sl, a_oNo, a_oSo, a_iSqS, a_iEnS, a_rNil, a_rCons, a_rDef, a_rIo, a_CallIo, a_Call, a_Raise, a_Var, a_VarB, a_tOf, a_Tgt, a_RetOwn, a_IoIx, a_iRng1, a_iRng2, a_iEn, a_iZp, a_iLst, a_Lc, a_Mut, a_Put, a_DPut, a_FldS, a_Tried, a_Make, a_LenO, a_ForD0, a_getC, a_setC, a_frzR, bind_ok', bind_exc, bind_bad, bind_ite, andS_ok, andS_exc, andS_bad, andS_ite, of_some, of_none, of_ite, sq_nx, sq_ret, sq_brk, sq_cnt, sq_exc, sq_bad, sq_ite, out_ret, out_nxF, out_exc, out_ite, back_ok, back_exc, back_ite, selB_bl, selB_ite, g_N, g_Tt, g_Tl, g_nil, g_cons, dLt_i, dLe_i, dGt_i, dGe_i, dAdd_i, dSub_i, dNeg_i, dIx_l, dIx_t, cLen_l, cLen_t, cList_l, cList_t, cTuple_l, cTuple_t, cMin_i, cMax_i, atI_zero, atI_one, atI_2, atI_3, atI_4, atI_5, atI_nt, atI_lst, dEq_pl, dNe_pl, dEq_bl, dNe_bl, dIsN_non, dIsN_int, dIsN_str, dIsN_lst, dIsN_tup, dIsN_bl, dNotN_non, dNotN_int, dNotN_str, dNotN_lst, dNotN_tup, dNotN_bl, sqS_l, sqS_t, enS_l, enS_t, noIo, isLst, wipeR, isi_list_n, isi_list_b, isi_list_i, isi_list_s, isi_list_l, isi_list_t, isi_tuple_n, isi_tuple_b, isi_tuple_i, isi_tuple_s, isi_tuple_l, isi_tuple_t, isi_bool_n, isi_bool_b, isi_bool_i, isi_bool_s, isi_bool_l, isi_bool_t, isi_int_n, isi_int_b, isi_int_i, isi_int_s, isi_int_l, isi_int_t, isi_str_n, isi_str_b, isi_str_i, isi_str_s, isi_str_l, isi_str_t, List.foldr_cons, List.foldr_nil, List.getElem?_cons_zero, List.getElem?_cons_succ, List.set_cons_zero, List.set_cons_succ, List.length_cons, List.length_nil, List.replicate_succ, List.replicate_zero, List.cons_append, List.nil_append, List.map_cons, List.map_nil, Nat.reduceAdd, Nat.reduceSub, Nat.reduceLeDiff, Nat.reduceLT, sizeLine_val, ite_true, ite_false, if_true, if_false, Bool.false_eq_true, Bool.true_eq_false, decide_eq_true_eq, Bool.not_eq_true', Bool.not_true, Bool.not_false, decide_true, decide_false, decide_eq_false_iff_not, D.int.injEq, D.str.injEq, D.bl.injEq, reduceCtorEq, Int.cast_ofNat_Int, Int.reduceNeg, Int.reducePow, Int.reduceLE, Int.reduceLT, Int.reduceToNat, and_self, Int.reduceEq, Int.reduceNe, Nat.reduceEqDiff, not_false_eq_true, not_true_eq_false, Int.toNat_natCast, List.range_succ, List.range_zero, a_turn, nxP_nx, nxP_cnt, nxP_ite, ↓reduceIte, efD, Nat.zero_add]
end K03
set_option maxHeartbeats 400000
namespace K03
open PySem PySem.Spec L2 Hw
def pr (q : Nat × Nat) : D := .tup [.int q.1, .int q.2]
/-- may the second follow the first, of another color -/
def mixc (p q : Ed) : Bool := decide (p.2.2 = q.2.1) && !decide (p.1 = q.1)
def mixRow (L : List Ed) (p : Ed × Nat) : List (Nat × Nat) := (L.zipIdx.filter fun q => mixc p.1 q.1).map fun q => (p.2, q.2)
def mix (L : List Ed) : List (Nat × Nat) := L.zipIdx.flatMap (mixRow L)
theorem mixed_pairs_ok (L : List Ed) (hl : L.length ≤ 1000) : m_mixed_pairs [.fz (.lst (L.map tri))] [] = .ok (.lst ((mix L).map pr)) [] := by
  have inner : ∀ (p : Ed × Nat) (k : Nat) (s : List (Nat × Nat)) (z w : Sv), k < 1000 → s.length ≤ k * 1000 → ∃ ρ2 τ2, forL lg_mixed_pairs_0 lb_mixed_pairs_0 (L.zipIdx.map fun q => .tup [.int q.2, tri q.1]) [.fz (.lst (L.map tri)), .own (.lst (s.map pr)), .fz (.int p.2), .fz (tri p.1), z, w] [] = .nx ρ2 τ2 ∧
      (τ2 = [] ∧ (L.zipIdx.foldl (fun s q => s ++ if mixc p.1 q.1 = true then [(p.2, q.2)] else []) s).length ≤ k * 1000 + L.zipIdx.length ∧ ∃ z' w', ρ2 = [.fz (.lst (L.map tri)), .own (.lst ((L.zipIdx.foldl (fun s q => s ++ if mixc p.1 q.1 = true then [(p.2, q.2)] else []) s).map pr)), .fz (.int p.2), .fz (tri p.1), z', w']) := by
    intro p k s z w hk hs
    have := for_foldi (g := lg_mixed_pairs_0) (body := lb_mixed_pairs_0) (fun q : Ed × Nat => D.tup [.int q.2, tri q.1]) (fun (s : List (Nat × Nat)) q => s ++ if mixc p.1 q.1 = true then [(p.2, q.2)] else [])
      (fun j s ρ τ => τ = [] ∧ s.length ≤ k * 1000 + j ∧ ∃ z' w', ρ = [.fz (.lst (L.map tri)), .own (.lst (s.map pr)), .fz (.int p.2), .fz (tri p.1), z', w']) L.zipIdx 0 s _ _ ⟨rfl, hs, z, w, rfl⟩ (by
        rintro i ⟨q, j⟩ s ρ τ hq ⟨rfl, hs, z', w', rfl⟩
        have hi : i < L.length := by
          have := (List.getElem?_eq_some_iff.mp hq).1
          simpa using this
        by_cases hc : mixc p.1 q = true
        · have hc' := hc
          simp only [mixc, Bool.and_eq_true, decide_eq_true_eq, Bool.not_eq_true', decide_eq_false_iff_not] at hc'
          simp only [lg_mixed_pairs_0, lb_mixed_pairs_0, tri, a_kBin2, a_kBin, a_kUn, a_kIfE, a_kAndT, a_kOrT, a_kNotT, a_kCons2, a_kCons, a_kCallB, a_kTup, a_kLst, a_kDrop, a_kRet, a_kIfS, a_kSet, a_kSetF, a_kFor, a_kPar2, a_kPar, a_kAnd, a_kOr, a_kNot, a_kCh3, a_kCh2, a_kCh1, a_kSl3, a_kSl2, a_kSl1, a_koSo, a_kOfL, a_krC2, a_krC, a_krIo, a_krDef, a_kCall, a_kCallIo, a_kRaise, a_ktOf, a_kTgt, a_kRng1, a_kRng2, a_kEn, a_kZp2, a_kZp, a_kiLst, a_kLc2, a_kLc, a_kMut, a_kPut2, a_kPut, a_kDPut2, a_kDPut, a_kFldS, a_kMake, a_kLenO, a_runB, a_C, a_Bin, a_Un, a_If, a_tAnd, a_tOr, a_tNot, a_tYes, a_Nil, a_Cons, a_CallB, a_Tup, a_Lst, a_Next, a_Brk, a_Cnt, a_Bad, a_Seq, a_Drop, a_Ret, a_sIf, a_Set, a_SetF, a_Frz, a_For, a_Par, a_AndS, a_OrS, a_Not, a_ChainS, a_Sl, a_oNo, a_oSo, a_iSqS, a_iEnS, a_rNil, a_rCons, a_rDef, a_rIo, a_CallIo, a_Call, a_Raise, a_Var, a_VarB, a_tOf, a_Tgt, a_RetOwn, a_IoIx, a_iRng1, a_iRng2, a_iEn, a_iZp, a_iLst, a_Lc, a_Mut, a_Put, a_DPut, a_FldS, a_Tried, a_Make, a_LenO, a_ForD0, a_getC, a_setC, a_frzR, bind_ok', bind_exc, bind_bad, bind_ite, andS_ok, andS_exc, andS_bad, andS_ite, of_some, of_none, of_ite, sq_nx, sq_ret, sq_brk, sq_cnt, sq_exc, sq_bad, sq_ite, out_ret, out_nxF, out_exc, out_ite, back_ok, back_exc, back_ite, selB_bl, selB_ite, g_N, g_Tt, g_Tl, g_nil, g_cons, dLt_i, dLe_i, dGt_i, dGe_i, dAdd_i, dSub_i, dNeg_i, dIx_l, dIx_t, cLen_l, cLen_t, cList_l, cList_t, cTuple_l, cTuple_t, cMin_i, cMax_i, atI_zero, atI_one, atI_2, atI_3, atI_4, atI_5, atI_nt, atI_lst, dEq_pl, dNe_pl, dEq_bl, dNe_bl, dIsN_non, dIsN_int, dIsN_str, dIsN_lst, dIsN_tup, dIsN_bl, dNotN_non, dNotN_int, dNotN_str, dNotN_lst, dNotN_tup, dNotN_bl, sqS_l, sqS_t, enS_l, enS_t, noIo, isLst, wipeR, isi_list_n, isi_list_b, isi_list_i, isi_list_s, isi_list_l, isi_list_t, isi_tuple_n, isi_tuple_b, isi_tuple_i, isi_tuple_s, isi_tuple_l, isi_tuple_t, isi_bool_n, isi_bool_b, isi_bool_i, isi_bool_s, isi_bool_l, isi_bool_t, isi_int_n, isi_int_b, isi_int_i, isi_int_s, isi_int_l, isi_int_t, isi_str_n, isi_str_b, isi_str_i, isi_str_s, isi_str_l, isi_str_t, List.foldr_cons, List.foldr_nil, List.getElem?_cons_zero, List.getElem?_cons_succ, List.set_cons_zero, List.set_cons_succ, List.length_cons, List.length_nil, List.replicate_succ, List.replicate_zero, List.cons_append, List.nil_append, List.map_cons, List.map_nil, Nat.reduceAdd, Nat.reduceSub, Nat.reduceLeDiff, Nat.reduceLT, sizeLine_val, ite_true, ite_false, if_true, if_false, Bool.false_eq_true, Bool.true_eq_false, decide_eq_true_eq, Bool.not_eq_true', Bool.not_true, Bool.not_false, decide_true, decide_false, decide_eq_false_iff_not, D.int.injEq, D.str.injEq, D.bl.injEq, reduceCtorEq, Int.cast_ofNat_Int, Int.reduceNeg, Int.reducePow, Int.reduceLE, Int.reduceLT, Int.reduceToNat, and_self, Int.reduceEq, Int.reduceNe, Nat.reduceEqDiff, not_false_eq_true, not_true_eq_false, Int.toNat_natCast, List.range_succ, List.range_zero, a_turn, nxP_nx, nxP_cnt, nxP_ite, ↓reduceIte, hc'.1, hc'.2, mAppend, List.length_map]
          rw [if_pos (by omega)]
          simp only [a_kBin2, a_kBin, a_kUn, a_kIfE, a_kAndT, a_kOrT, a_kNotT, a_kCons2, a_kCons, a_kCallB, a_kTup, a_kLst, a_kDrop, a_kRet, a_kIfS, a_kSet, a_kSetF, a_kFor, a_kPar2, a_kPar, a_kAnd, a_kOr, a_kNot, a_kCh3, a_kCh2, a_kCh1, a_kSl3, a_kSl2, a_kSl1, a_koSo, a_kOfL, a_krC2, a_krC, a_krIo, a_krDef, a_kCall, a_kCallIo, a_kRaise, a_ktOf, a_kTgt, a_kRng1, a_kRng2, a_kEn, a_kZp2, a_kZp, a_kiLst, a_kLc2, a_kLc, a_kMut, a_kPut2, a_kPut, a_kDPut2, a_kDPut, a_kFldS, a_kMake, a_kLenO, a_runB, a_C, a_Bin, a_Un, a_If, a_tAnd, a_tOr, a_tNot, a_tYes, a_Nil, a_Cons, a_CallB, a_Tup, a_Lst, a_Next, a_Brk, a_Cnt, a_Bad, a_Seq, a_Drop, a_Ret, a_sIf, a_Set, a_SetF, a_Frz, a_For, a_Par, a_AndS, a_OrS, a_Not, a_ChainS, a_Sl, a_oNo, a_oSo, a_iSqS, a_iEnS, a_rNil, a_rCons, a_rDef, a_rIo, a_CallIo, a_Call, a_Raise, a_Var, a_VarB, a_tOf, a_Tgt, a_RetOwn, a_IoIx, a_iRng1, a_iRng2, a_iEn, a_iZp, a_iLst, a_Lc, a_Mut, a_Put, a_DPut, a_FldS, a_Tried, a_Make, a_LenO, a_ForD0, a_getC, a_setC, a_frzR, bind_ok', bind_exc, bind_bad, bind_ite, andS_ok, andS_exc, andS_bad, andS_ite, of_some, of_none, of_ite, sq_nx, sq_ret, sq_brk, sq_cnt, sq_exc, sq_bad, sq_ite, out_ret, out_nxF, out_exc, out_ite, back_ok, back_exc, back_ite, selB_bl, selB_ite, g_N, g_Tt, g_Tl, g_nil, g_cons, dLt_i, dLe_i, dGt_i, dGe_i, dAdd_i, dSub_i, dNeg_i, dIx_l, dIx_t, cLen_l, cLen_t, cList_l, cList_t, cTuple_l, cTuple_t, cMin_i, cMax_i, atI_zero, atI_one, atI_2, atI_3, atI_4, atI_5, atI_nt, atI_lst, dEq_pl, dNe_pl, dEq_bl, dNe_bl, dIsN_non, dIsN_int, dIsN_str, dIsN_lst, dIsN_tup, dIsN_bl, dNotN_non, dNotN_int, dNotN_str, dNotN_lst, dNotN_tup, dNotN_bl, sqS_l, sqS_t, enS_l, enS_t, noIo, isLst, wipeR, isi_list_n, isi_list_b, isi_list_i, isi_list_s, isi_list_l, isi_list_t, isi_tuple_n, isi_tuple_b, isi_tuple_i, isi_tuple_s, isi_tuple_l, isi_tuple_t, isi_bool_n, isi_bool_b, isi_bool_i, isi_bool_s, isi_bool_l, isi_bool_t, isi_int_n, isi_int_b, isi_int_i, isi_int_s, isi_int_l, isi_int_t, isi_str_n, isi_str_b, isi_str_i, isi_str_s, isi_str_l, isi_str_t, List.foldr_cons, List.foldr_nil, List.getElem?_cons_zero, List.getElem?_cons_succ, List.set_cons_zero, List.set_cons_succ, List.length_cons, List.length_nil, List.replicate_succ, List.replicate_zero, List.cons_append, List.nil_append, List.map_cons, List.map_nil, Nat.reduceAdd, Nat.reduceSub, Nat.reduceLeDiff, Nat.reduceLT, sizeLine_val, ite_true, ite_false, if_true, if_false, Bool.false_eq_true, Bool.true_eq_false, decide_eq_true_eq, Bool.not_eq_true', Bool.not_true, Bool.not_false, decide_true, decide_false, decide_eq_false_iff_not, D.int.injEq, D.str.injEq, D.bl.injEq, reduceCtorEq, Int.cast_ofNat_Int, Int.reduceNeg, Int.reducePow, Int.reduceLE, Int.reduceLT, Int.reduceToNat, and_self, Int.reduceEq, Int.reduceNe, Nat.reduceEqDiff, not_false_eq_true, not_true_eq_false, Int.toNat_natCast, List.range_succ, List.range_zero, a_turn, nxP_nx, nxP_cnt, nxP_ite, ↓reduceIte, hc]
          simp only [List.map_append, List.map_cons, List.map_nil, pr, List.length_append, List.length_singleton]
          exact ⟨trivial, by omega, _, _, rfl⟩
        · have hc2 : mixc p.1 q = false := by simpa using hc
          have e : ∃ c1 c2, c1 = decide (p.1.2.2 = q.2.1) ∧ c2 = decide (p.1.1 = q.1) ∧ (c1 && !c2) = false := ⟨_, _, rfl, rfl, hc2⟩
          simp only [lg_mixed_pairs_0, lb_mixed_pairs_0, tri, a_kBin2, a_kBin, a_kUn, a_kIfE, a_kAndT, a_kOrT, a_kNotT, a_kCons2, a_kCons, a_kCallB, a_kTup, a_kLst, a_kDrop, a_kRet, a_kIfS, a_kSet, a_kSetF, a_kFor, a_kPar2, a_kPar, a_kAnd, a_kOr, a_kNot, a_kCh3, a_kCh2, a_kCh1, a_kSl3, a_kSl2, a_kSl1, a_koSo, a_kOfL, a_krC2, a_krC, a_krIo, a_krDef, a_kCall, a_kCallIo, a_kRaise, a_ktOf, a_kTgt, a_kRng1, a_kRng2, a_kEn, a_kZp2, a_kZp, a_kiLst, a_kLc2, a_kLc, a_kMut, a_kPut2, a_kPut, a_kDPut2, a_kDPut, a_kFldS, a_kMake, a_kLenO, a_runB, a_C, a_Bin, a_Un, a_If, a_tAnd, a_tOr, a_tNot, a_tYes, a_Nil, a_Cons, a_CallB, a_Tup, a_Lst, a_Next, a_Brk, a_Cnt, a_Bad, a_Seq, a_Drop, a_Ret, a_sIf, a_Set, a_SetF, a_Frz, a_For, a_Par, a_AndS, a_OrS, a_Not, a_ChainS, a_Sl, a_oNo, a_oSo, a_iSqS, a_iEnS, a_rNil, a_rCons, a_rDef, a_rIo, a_CallIo, a_Call, a_Raise, a_Var, a_VarB, a_tOf, a_Tgt, a_RetOwn, a_IoIx, a_iRng1, a_iRng2, a_iEn, a_iZp, a_iLst, a_Lc, a_Mut, a_Put, a_DPut, a_FldS, a_Tried, a_Make, a_LenO, a_ForD0, a_getC, a_setC, a_frzR, bind_ok', bind_exc, bind_bad, bind_ite, andS_ok, andS_exc, andS_bad, andS_ite, of_some, of_none, of_ite, sq_nx, sq_ret, sq_brk, sq_cnt, sq_exc, sq_bad, sq_ite, out_ret, out_nxF, out_exc, out_ite, back_ok, back_exc, back_ite, selB_bl, selB_ite, g_N, g_Tt, g_Tl, g_nil, g_cons, dLt_i, dLe_i, dGt_i, dGe_i, dAdd_i, dSub_i, dNeg_i, dIx_l, dIx_t, cLen_l, cLen_t, cList_l, cList_t, cTuple_l, cTuple_t, cMin_i, cMax_i, atI_zero, atI_one, atI_2, atI_3, atI_4, atI_5, atI_nt, atI_lst, dEq_pl, dNe_pl, dEq_bl, dNe_bl, dIsN_non, dIsN_int, dIsN_str, dIsN_lst, dIsN_tup, dIsN_bl, dNotN_non, dNotN_int, dNotN_str, dNotN_lst, dNotN_tup, dNotN_bl, sqS_l, sqS_t, enS_l, enS_t, noIo, isLst, wipeR, isi_list_n, isi_list_b, isi_list_i, isi_list_s, isi_list_l, isi_list_t, isi_tuple_n, isi_tuple_b, isi_tuple_i, isi_tuple_s, isi_tuple_l, isi_tuple_t, isi_bool_n, isi_bool_b, isi_bool_i, isi_bool_s, isi_bool_l, isi_bool_t, isi_int_n, isi_int_b, isi_int_i, isi_int_s, isi_int_l, isi_int_t, isi_str_n, isi_str_b, isi_str_i, isi_str_s, isi_str_l, isi_str_t, List.foldr_cons, List.foldr_nil, List.getElem?_cons_zero, List.getElem?_cons_succ, List.set_cons_zero, List.set_cons_succ, List.length_cons, List.length_nil, List.replicate_succ, List.replicate_zero, List.cons_append, List.nil_append, List.map_cons, List.map_nil, Nat.reduceAdd, Nat.reduceSub, Nat.reduceLeDiff, Nat.reduceLT, sizeLine_val, ite_true, ite_false, if_true, if_false, Bool.false_eq_true, Bool.true_eq_false, decide_eq_true_eq, Bool.not_eq_true', Bool.not_true, Bool.not_false, decide_true, decide_false, decide_eq_false_iff_not, D.int.injEq, D.str.injEq, D.bl.injEq, reduceCtorEq, Int.cast_ofNat_Int, Int.reduceNeg, Int.reducePow, Int.reduceLE, Int.reduceLT, Int.reduceToNat, and_self, Int.reduceEq, Int.reduceNe, Nat.reduceEqDiff, not_false_eq_true, not_true_eq_false, Int.toNat_natCast, List.range_succ, List.range_zero, a_turn, nxP_nx, nxP_cnt, nxP_ite, ↓reduceIte, hc2, List.append_nil]
          simp only [mixc, Bool.and_eq_false_iff, decide_eq_false_iff_not, Bool.not_eq_false', decide_eq_true_eq] at hc2
          by_cases h1 : p.1.2.2 = q.2.1
          · have h2 : p.1.1 = q.1 := hc2.resolve_left (fun h => h h1)
            simp only [a_kBin2, a_kBin, a_kUn, a_kIfE, a_kAndT, a_kOrT, a_kNotT, a_kCons2, a_kCons, a_kCallB, a_kTup, a_kLst, a_kDrop, a_kRet, a_kIfS, a_kSet, a_kSetF, a_kFor, a_kPar2, a_kPar, a_kAnd, a_kOr, a_kNot, a_kCh3, a_kCh2, a_kCh1, a_kSl3, a_kSl2, a_kSl1, a_koSo, a_kOfL, a_krC2, a_krC, a_krIo, a_krDef, a_kCall, a_kCallIo, a_kRaise, a_ktOf, a_kTgt, a_kRng1, a_kRng2, a_kEn, a_kZp2, a_kZp, a_kiLst, a_kLc2, a_kLc, a_kMut, a_kPut2, a_kPut, a_kDPut2, a_kDPut, a_kFldS, a_kMake, a_kLenO, a_runB, a_C, a_Bin, a_Un, a_If, a_tAnd, a_tOr, a_tNot, a_tYes, a_Nil, a_Cons, a_CallB, a_Tup, a_Lst, a_Next, a_Brk, a_Cnt, a_Bad, a_Seq, a_Drop, a_Ret, a_sIf, a_Set, a_SetF, a_Frz, a_For, a_Par, a_AndS, a_OrS, a_Not, a_ChainS, a_Sl, a_oNo, a_oSo, a_iSqS, a_iEnS, a_rNil, a_rCons, a_rDef, a_rIo, a_CallIo, a_Call, a_Raise, a_Var, a_VarB, a_tOf, a_Tgt, a_RetOwn, a_IoIx, a_iRng1, a_iRng2, a_iEn, a_iZp, a_iLst, a_Lc, a_Mut, a_Put, a_DPut, a_FldS, a_Tried, a_Make, a_LenO, a_ForD0, a_getC, a_setC, a_frzR, bind_ok', bind_exc, bind_bad, bind_ite, andS_ok, andS_exc, andS_bad, andS_ite, of_some, of_none, of_ite, sq_nx, sq_ret, sq_brk, sq_cnt, sq_exc, sq_bad, sq_ite, out_ret, out_nxF, out_exc, out_ite, back_ok, back_exc, back_ite, selB_bl, selB_ite, g_N, g_Tt, g_Tl, g_nil, g_cons, dLt_i, dLe_i, dGt_i, dGe_i, dAdd_i, dSub_i, dNeg_i, dIx_l, dIx_t, cLen_l, cLen_t, cList_l, cList_t, cTuple_l, cTuple_t, cMin_i, cMax_i, atI_zero, atI_one, atI_2, atI_3, atI_4, atI_5, atI_nt, atI_lst, dEq_pl, dNe_pl, dEq_bl, dNe_bl, dIsN_non, dIsN_int, dIsN_str, dIsN_lst, dIsN_tup, dIsN_bl, dNotN_non, dNotN_int, dNotN_str, dNotN_lst, dNotN_tup, dNotN_bl, sqS_l, sqS_t, enS_l, enS_t, noIo, isLst, wipeR, isi_list_n, isi_list_b, isi_list_i, isi_list_s, isi_list_l, isi_list_t, isi_tuple_n, isi_tuple_b, isi_tuple_i, isi_tuple_s, isi_tuple_l, isi_tuple_t, isi_bool_n, isi_bool_b, isi_bool_i, isi_bool_s, isi_bool_l, isi_bool_t, isi_int_n, isi_int_b, isi_int_i, isi_int_s, isi_int_l, isi_int_t, isi_str_n, isi_str_b, isi_str_i, isi_str_s, isi_str_l, isi_str_t, List.foldr_cons, List.foldr_nil, List.getElem?_cons_zero, List.getElem?_cons_succ, List.set_cons_zero, List.set_cons_succ, List.length_cons, List.length_nil, List.replicate_succ, List.replicate_zero, List.cons_append, List.nil_append, List.map_cons, List.map_nil, Nat.reduceAdd, Nat.reduceSub, Nat.reduceLeDiff, Nat.reduceLT, sizeLine_val, ite_true, ite_false, if_true, if_false, Bool.false_eq_true, Bool.true_eq_false, decide_eq_true_eq, Bool.not_eq_true', Bool.not_true, Bool.not_false, decide_true, decide_false, decide_eq_false_iff_not, D.int.injEq, D.str.injEq, D.bl.injEq, reduceCtorEq, Int.cast_ofNat_Int, Int.reduceNeg, Int.reducePow, Int.reduceLE, Int.reduceLT, Int.reduceToNat, and_self, Int.reduceEq, Int.reduceNe, Nat.reduceEqDiff, not_false_eq_true, not_true_eq_false, Int.toNat_natCast, List.range_succ, List.range_zero, a_turn, nxP_nx, nxP_cnt, nxP_ite, ↓reduceIte, h1, h2]
            exact ⟨trivial, by omega, _, _, rfl⟩
          · simp only [a_kBin2, a_kBin, a_kUn, a_kIfE, a_kAndT, a_kOrT, a_kNotT, a_kCons2, a_kCons, a_kCallB, a_kTup, a_kLst, a_kDrop, a_kRet, a_kIfS, a_kSet, a_kSetF, a_kFor, a_kPar2, a_kPar, a_kAnd, a_kOr, a_kNot, a_kCh3, a_kCh2, a_kCh1, a_kSl3, a_kSl2, a_kSl1, a_koSo, a_kOfL, a_krC2, a_krC, a_krIo, a_krDef, a_kCall, a_kCallIo, a_kRaise, a_ktOf, a_kTgt, a_kRng1, a_kRng2, a_kEn, a_kZp2, a_kZp, a_kiLst, a_kLc2, a_kLc, a_kMut, a_kPut2, a_kPut, a_kDPut2, a_kDPut, a_kFldS, a_kMake, a_kLenO, a_runB, a_C, a_Bin, a_Un, a_If, a_tAnd, a_tOr, a_tNot, a_tYes, a_Nil, a_Cons, a_CallB, a_Tup, a_Lst, a_Next, a_Brk, a_Cnt, a_Bad, a_Seq, a_Drop, a_Ret, a_sIf, a_Set, a_SetF, a_Frz, a_For, a_Par, a_AndS, a_OrS, a_Not, a_ChainS, a_Sl, a_oNo, a_oSo, a_iSqS, a_iEnS, a_rNil, a_rCons, a_rDef, a_rIo, a_CallIo, a_Call, a_Raise, a_Var, a_VarB, a_tOf, a_Tgt, a_RetOwn, a_IoIx, a_iRng1, a_iRng2, a_iEn, a_iZp, a_iLst, a_Lc, a_Mut, a_Put, a_DPut, a_FldS, a_Tried, a_Make, a_LenO, a_ForD0, a_getC, a_setC, a_frzR, bind_ok', bind_exc, bind_bad, bind_ite, andS_ok, andS_exc, andS_bad, andS_ite, of_some, of_none, of_ite, sq_nx, sq_ret, sq_brk, sq_cnt, sq_exc, sq_bad, sq_ite, out_ret, out_nxF, out_exc, out_ite, back_ok, back_exc, back_ite, selB_bl, selB_ite, g_N, g_Tt, g_Tl, g_nil, g_cons, dLt_i, dLe_i, dGt_i, dGe_i, dAdd_i, dSub_i, dNeg_i, dIx_l, dIx_t, cLen_l, cLen_t, cList_l, cList_t, cTuple_l, cTuple_t, cMin_i, cMax_i, atI_zero, atI_one, atI_2, atI_3, atI_4, atI_5, atI_nt, atI_lst, dEq_pl, dNe_pl, dEq_bl, dNe_bl, dIsN_non, dIsN_int, dIsN_str, dIsN_lst, dIsN_tup, dIsN_bl, dNotN_non, dNotN_int, dNotN_str, dNotN_lst, dNotN_tup, dNotN_bl, sqS_l, sqS_t, enS_l, enS_t, noIo, isLst, wipeR, isi_list_n, isi_list_b, isi_list_i, isi_list_s, isi_list_l, isi_list_t, isi_tuple_n, isi_tuple_b, isi_tuple_i, isi_tuple_s, isi_tuple_l, isi_tuple_t, isi_bool_n, isi_bool_b, isi_bool_i, isi_bool_s, isi_bool_l, isi_bool_t, isi_int_n, isi_int_b, isi_int_i, isi_int_s, isi_int_l, isi_int_t, isi_str_n, isi_str_b, isi_str_i, isi_str_s, isi_str_l, isi_str_t, List.foldr_cons, List.foldr_nil, List.getElem?_cons_zero, List.getElem?_cons_succ, List.set_cons_zero, List.set_cons_succ, List.length_cons, List.length_nil, List.replicate_succ, List.replicate_zero, List.cons_append, List.nil_append, List.map_cons, List.map_nil, Nat.reduceAdd, Nat.reduceSub, Nat.reduceLeDiff, Nat.reduceLT, sizeLine_val, ite_true, ite_false, if_true, if_false, Bool.false_eq_true, Bool.true_eq_false, decide_eq_true_eq, Bool.not_eq_true', Bool.not_true, Bool.not_false, decide_true, decide_false, decide_eq_false_iff_not, D.int.injEq, D.str.injEq, D.bl.injEq, reduceCtorEq, Int.cast_ofNat_Int, Int.reduceNeg, Int.reducePow, Int.reduceLE, Int.reduceLT, Int.reduceToNat, and_self, Int.reduceEq, Int.reduceNe, Nat.reduceEqDiff, not_false_eq_true, not_true_eq_false, Int.toNat_natCast, List.range_succ, List.range_zero, a_turn, nxP_nx, nxP_cnt, nxP_ite, ↓reduceIte, h1]
            exact ⟨trivial, by omega, _, _, rfl⟩)
    simpa only [Nat.zero_add] using this
  have outer := for_foldi (g := lg_mixed_pairs_1) (body := lb_mixed_pairs_1) (fun q : Ed × Nat => D.tup [.int q.2, tri q.1]) (fun (s : List (Nat × Nat)) p => s ++ mixRow L p)
    (fun k s ρ τ => τ = [] ∧ s.length ≤ k * 1000 ∧ ∃ x y z w, ρ = [.fz (.lst (L.map tri)), .own (.lst (s.map pr)), x, y, z, w]) L.zipIdx 0 [] [.fz (.lst (L.map tri)), .own (.lst []), .no, .no, .no, .no] [] ⟨rfl, by simp, _, _, _, _, rfl⟩ (by
      rintro k ⟨p, i⟩ s ρ τ hq ⟨rfl, hs, x, y, z, w, rfl⟩
      have hk : k < L.length := by
        have := (List.getElem?_eq_some_iff.mp hq).1
        simpa using this
      obtain ⟨ρ2, τ2, h1, rfl, h3, z', w', rfl⟩ := inner (p, i) k s z w (by omega) (by omega)
      have e : L.zipIdx.foldl (fun s q => s ++ if mixc p q.1 = true then [(i, q.2)] else []) s = s ++ mixRow L (p, i) := by
        rw [foldl_flat (fun q : Ed × Nat => if mixc p q.1 = true then [(i, q.2)] else [])]
        congr 1
        unfold mixRow
        induction L.zipIdx with
        | nil => rfl
        | cons q l ih => 
          rw [List.flatMap_cons, ih, List.filter_cons]
          split <;> rfl
      simp only [e] at h1 h3
      have h4 := List.length_zipIdx (l := L) (i := 0)
      simp only [lg_mixed_pairs_1, lb_mixed_pairs_1, a_kBin2, a_kBin, a_kUn, a_kIfE, a_kAndT, a_kOrT, a_kNotT, a_kCons2, a_kCons, a_kCallB, a_kTup, a_kLst, a_kDrop, a_kRet, a_kIfS, a_kSet, a_kSetF, a_kFor, a_kPar2, a_kPar, a_kAnd, a_kOr, a_kNot, a_kCh3, a_kCh2, a_kCh1, a_kSl3, a_kSl2, a_kSl1, a_koSo, a_kOfL, a_krC2, a_krC, a_krIo, a_krDef, a_kCall, a_kCallIo, a_kRaise, a_ktOf, a_kTgt, a_kRng1, a_kRng2, a_kEn, a_kZp2, a_kZp, a_kiLst, a_kLc2, a_kLc, a_kMut, a_kPut2, a_kPut, a_kDPut2, a_kDPut, a_kFldS, a_kMake, a_kLenO, a_runB, a_C, a_Bin, a_Un, a_If, a_tAnd, a_tOr, a_tNot, a_tYes, a_Nil, a_Cons, a_CallB, a_Tup, a_Lst, a_Next, a_Brk, a_Cnt, a_Bad, a_Seq, a_Drop, a_Ret, a_sIf, a_Set, a_SetF, a_Frz, a_For, a_Par, a_AndS, a_OrS, a_Not, a_ChainS, a_Sl, a_oNo, a_oSo, a_iSqS, a_iEnS, a_rNil, a_rCons, a_rDef, a_rIo, a_CallIo, a_Call, a_Raise, a_Var, a_VarB, a_tOf, a_Tgt, a_RetOwn, a_IoIx, a_iRng1, a_iRng2, a_iEn, a_iZp, a_iLst, a_Lc, a_Mut, a_Put, a_DPut, a_FldS, a_Tried, a_Make, a_LenO, a_ForD0, a_getC, a_setC, a_frzR, bind_ok', bind_exc, bind_bad, bind_ite, andS_ok, andS_exc, andS_bad, andS_ite, of_some, of_none, of_ite, sq_nx, sq_ret, sq_brk, sq_cnt, sq_exc, sq_bad, sq_ite, out_ret, out_nxF, out_exc, out_ite, back_ok, back_exc, back_ite, selB_bl, selB_ite, g_N, g_Tt, g_Tl, g_nil, g_cons, dLt_i, dLe_i, dGt_i, dGe_i, dAdd_i, dSub_i, dNeg_i, dIx_l, dIx_t, cLen_l, cLen_t, cList_l, cList_t, cTuple_l, cTuple_t, cMin_i, cMax_i, atI_zero, atI_one, atI_2, atI_3, atI_4, atI_5, atI_nt, atI_lst, dEq_pl, dNe_pl, dEq_bl, dNe_bl, dIsN_non, dIsN_int, dIsN_str, dIsN_lst, dIsN_tup, dIsN_bl, dNotN_non, dNotN_int, dNotN_str, dNotN_lst, dNotN_tup, dNotN_bl, sqS_l, sqS_t, enS_l, enS_t, noIo, isLst, wipeR, isi_list_n, isi_list_b, isi_list_i, isi_list_s, isi_list_l, isi_list_t, isi_tuple_n, isi_tuple_b, isi_tuple_i, isi_tuple_s, isi_tuple_l, isi_tuple_t, isi_bool_n, isi_bool_b, isi_bool_i, isi_bool_s, isi_bool_l, isi_bool_t, isi_int_n, isi_int_b, isi_int_i, isi_int_s, isi_int_l, isi_int_t, isi_str_n, isi_str_b, isi_str_i, isi_str_s, isi_str_l, isi_str_t, List.foldr_cons, List.foldr_nil, List.getElem?_cons_zero, List.getElem?_cons_succ, List.set_cons_zero, List.set_cons_succ, List.length_cons, List.length_nil, List.replicate_succ, List.replicate_zero, List.cons_append, List.nil_append, List.map_cons, List.map_nil, Nat.reduceAdd, Nat.reduceSub, Nat.reduceLeDiff, Nat.reduceLT, sizeLine_val, ite_true, ite_false, if_true, if_false, Bool.false_eq_true, Bool.true_eq_false, decide_eq_true_eq, Bool.not_eq_true', Bool.not_true, Bool.not_false, decide_true, decide_false, decide_eq_false_iff_not, D.int.injEq, D.str.injEq, D.bl.injEq, reduceCtorEq, Int.cast_ofNat_Int, Int.reduceNeg, Int.reducePow, Int.reduceLE, Int.reduceLT, Int.reduceToNat, and_self, Int.reduceEq, Int.reduceNe, Nat.reduceEqDiff, not_false_eq_true, not_true_eq_false, Int.toNat_natCast, List.range_succ, List.range_zero, a_turn, nxP_nx, nxP_cnt, nxP_ite, ↓reduceIte, en_map, h1]
      exact ⟨trivial, by rw [h4] at h3; omega, _, _, _, _, rfl⟩)
  obtain ⟨ρ2, τ2, h1, rfl, h3, x, y, z, w, rfl⟩ := outer
  simp only [m_mixed_pairs, b_mixed_pairs, a_kBin2, a_kBin, a_kUn, a_kIfE, a_kAndT, a_kOrT, a_kNotT, a_kCons2, a_kCons, a_kCallB, a_kTup, a_kLst, a_kDrop, a_kRet, a_kIfS, a_kSet, a_kSetF, a_kFor, a_kPar2, a_kPar, a_kAnd, a_kOr, a_kNot, a_kCh3, a_kCh2, a_kCh1, a_kSl3, a_kSl2, a_kSl1, a_koSo, a_kOfL, a_krC2, a_krC, a_krIo, a_krDef, a_kCall, a_kCallIo, a_kRaise, a_ktOf, a_kTgt, a_kRng1, a_kRng2, a_kEn, a_kZp2, a_kZp, a_kiLst, a_kLc2, a_kLc, a_kMut, a_kPut2, a_kPut, a_kDPut2, a_kDPut, a_kFldS, a_kMake, a_kLenO, a_runB, a_C, a_Bin, a_Un, a_If, a_tAnd, a_tOr, a_tNot, a_tYes, a_Nil, a_Cons, a_CallB, a_Tup, a_Lst, a_Next, a_Brk, a_Cnt, a_Bad, a_Seq, a_Drop, a_Ret, a_sIf, a_Set, a_SetF, a_Frz, a_For, a_Par, a_AndS, a_OrS, a_Not, a_ChainS, a_Sl, a_oNo, a_oSo, a_iSqS, a_iEnS, a_rNil, a_rCons, a_rDef, a_rIo, a_CallIo, a_Call, a_Raise, a_Var, a_VarB, a_tOf, a_Tgt, a_RetOwn, a_IoIx, a_iRng1, a_iRng2, a_iEn, a_iZp, a_iLst, a_Lc, a_Mut, a_Put, a_DPut, a_FldS, a_Tried, a_Make, a_LenO, a_ForD0, a_getC, a_setC, a_frzR, bind_ok', bind_exc, bind_bad, bind_ite, andS_ok, andS_exc, andS_bad, andS_ite, of_some, of_none, of_ite, sq_nx, sq_ret, sq_brk, sq_cnt, sq_exc, sq_bad, sq_ite, out_ret, out_nxF, out_exc, out_ite, back_ok, back_exc, back_ite, selB_bl, selB_ite, g_N, g_Tt, g_Tl, g_nil, g_cons, dLt_i, dLe_i, dGt_i, dGe_i, dAdd_i, dSub_i, dNeg_i, dIx_l, dIx_t, cLen_l, cLen_t, cList_l, cList_t, cTuple_l, cTuple_t, cMin_i, cMax_i, atI_zero, atI_one, atI_2, atI_3, atI_4, atI_5, atI_nt, atI_lst, dEq_pl, dNe_pl, dEq_bl, dNe_bl, dIsN_non, dIsN_int, dIsN_str, dIsN_lst, dIsN_tup, dIsN_bl, dNotN_non, dNotN_int, dNotN_str, dNotN_lst, dNotN_tup, dNotN_bl, sqS_l, sqS_t, enS_l, enS_t, noIo, isLst, wipeR, isi_list_n, isi_list_b, isi_list_i, isi_list_s, isi_list_l, isi_list_t, isi_tuple_n, isi_tuple_b, isi_tuple_i, isi_tuple_s, isi_tuple_l, isi_tuple_t, isi_bool_n, isi_bool_b, isi_bool_i, isi_bool_s, isi_bool_l, isi_bool_t, isi_int_n, isi_int_b, isi_int_i, isi_int_s, isi_int_l, isi_int_t, isi_str_n, isi_str_b, isi_str_i, isi_str_s, isi_str_l, isi_str_t, List.foldr_cons, List.foldr_nil, List.getElem?_cons_zero, List.getElem?_cons_succ, List.set_cons_zero, List.set_cons_succ, List.length_cons, List.length_nil, List.replicate_succ, List.replicate_zero, List.cons_append, List.nil_append, List.map_cons, List.map_nil, Nat.reduceAdd, Nat.reduceSub, Nat.reduceLeDiff, Nat.reduceLT, sizeLine_val, ite_true, ite_false, if_true, if_false, Bool.false_eq_true, Bool.true_eq_false, decide_eq_true_eq, Bool.not_eq_true', Bool.not_true, Bool.not_false, decide_true, decide_false, decide_eq_false_iff_not, D.int.injEq, D.str.injEq, D.bl.injEq, reduceCtorEq, Int.cast_ofNat_Int, Int.reduceNeg, Int.reducePow, Int.reduceLE, Int.reduceLT, Int.reduceToNat, and_self, Int.reduceEq, Int.reduceNe, Nat.reduceEqDiff, not_false_eq_true, not_true_eq_false, Int.toNat_natCast, List.range_succ, List.range_zero, a_turn, nxP_nx, nxP_cnt, nxP_ite, ↓reduceIte, en_map, h1]
  rw [foldl_flat, List.nil_append]
  rfl
end K03
set_option maxHeartbeats 400000
namespace K03
open PySem PySem.Spec L2 Hw
/-- the fault of the sizes: what is raised -/
def szE (c n m : Int) : Option Exc := if ¬ (1 ≤ c ∧ c ≤ 3) then some ⟨"BadNumber", ["number", "tag"], [.int c, .str "BadNumber"]⟩ else if n < 1 then some ⟨"BadNumber", ["number", "tag"], [.int n, .str "BadNumber"]⟩
  else if 30 < n then some ⟨"Full", ["bound", "tag"], [.int 30, .str "Full"]⟩ else if 120 < m then some ⟨"Full", ["bound", "tag"], [.int 120, .str "Full"]⟩ else none
/-- the same as it is told -/
def szD (c n m : Int) : Option D := if ¬ (1 ≤ c ∧ c ≤ 3) then some (.tup [.str "no", .str "BadNumber", .int c]) else if n < 1 then some (.tup [.str "no", .str "BadNumber", .int n])
  else if 30 < n then some (.tup [.str "no", .str "Full", .int 30]) else if 120 < m then some (.tup [.str "no", .str "Full", .int 120]) else none
def excO : Option Exc → Out D
  | none => .ok .non []
  | some e => .exc e []
theorem check_ok (c n : Int) (ls : List D) : m_check_sizes [.fz (.int c), .fz (.int n), .fz (.lst ls)] [] = excO (szE c n ls.length) := by
  simp only [m_check_sizes, b_check_sizes, a_kBin2, a_kBin, a_kUn, a_kIfE, a_kAndT, a_kOrT, a_kNotT, a_kCons2, a_kCons, a_kCallB, a_kTup, a_kLst, a_kDrop, a_kRet, a_kIfS, a_kSet, a_kSetF, a_kFor, a_kPar2, a_kPar, a_kAnd, a_kOr, a_kNot, a_kCh3, a_kCh2, a_kCh1, a_kSl3, a_kSl2, a_kSl1, a_koSo, a_kOfL, a_krC2, a_krC, a_krIo, a_krDef, a_kCall, a_kCallIo, a_kRaise, a_ktOf, a_kTgt, a_kRng1, a_kRng2, a_kEn, a_kZp2, a_kZp, a_kiLst, a_kLc2, a_kLc, a_kMut, a_kPut2, a_kPut, a_kDPut2, a_kDPut, a_kFldS, a_kMake, a_kLenO, a_runB, a_C, a_Bin, a_Un, a_If, a_tAnd, a_tOr, a_tNot, a_tYes, a_Nil, a_Cons, a_CallB, a_Tup, a_Lst, a_Next, a_Brk, a_Cnt, a_Bad, a_Seq, a_Drop, a_Ret, a_sIf, a_Set, a_SetF, a_Frz, a_For, a_Par, a_AndS, a_OrS, a_Not, a_ChainS, a_Sl, a_oNo, a_oSo, a_iSqS, a_iEnS, a_rNil, a_rCons, a_rDef, a_rIo, a_CallIo, a_Call, a_Raise, a_Var, a_VarB, a_tOf, a_Tgt, a_RetOwn, a_IoIx, a_iRng1, a_iRng2, a_iEn, a_iZp, a_iLst, a_Lc, a_Mut, a_Put, a_DPut, a_FldS, a_Tried, a_Make, a_LenO, a_ForD0, a_getC, a_setC, a_frzR, bind_ok', bind_exc, bind_bad, bind_ite, andS_ok, andS_exc, andS_bad, andS_ite, of_some, of_none, of_ite, sq_nx, sq_ret, sq_brk, sq_cnt, sq_exc, sq_bad, sq_ite, out_ret, out_nxF, out_exc, out_ite, back_ok, back_exc, back_ite, selB_bl, selB_ite, g_N, g_Tt, g_Tl, g_nil, g_cons, dLt_i, dLe_i, dGt_i, dGe_i, dAdd_i, dSub_i, dNeg_i, dIx_l, dIx_t, cLen_l, cLen_t, cList_l, cList_t, cTuple_l, cTuple_t, cMin_i, cMax_i, atI_zero, atI_one, atI_2, atI_3, atI_4, atI_5, atI_nt, atI_lst, dEq_pl, dNe_pl, dEq_bl, dNe_bl, dIsN_non, dIsN_int, dIsN_str, dIsN_lst, dIsN_tup, dIsN_bl, dNotN_non, dNotN_int, dNotN_str, dNotN_lst, dNotN_tup, dNotN_bl, sqS_l, sqS_t, enS_l, enS_t, noIo, isLst, wipeR, isi_list_n, isi_list_b, isi_list_i, isi_list_s, isi_list_l, isi_list_t, isi_tuple_n, isi_tuple_b, isi_tuple_i, isi_tuple_s, isi_tuple_l, isi_tuple_t, isi_bool_n, isi_bool_b, isi_bool_i, isi_bool_s, isi_bool_l, isi_bool_t, isi_int_n, isi_int_b, isi_int_i, isi_int_s, isi_int_l, isi_int_t, isi_str_n, isi_str_b, isi_str_i, isi_str_s, isi_str_l, isi_str_t, List.foldr_cons, List.foldr_nil, List.getElem?_cons_zero, List.getElem?_cons_succ, List.set_cons_zero, List.set_cons_succ, List.length_cons, List.length_nil, List.replicate_succ, List.replicate_zero, List.cons_append, List.nil_append, List.map_cons, List.map_nil, Nat.reduceAdd, Nat.reduceSub, Nat.reduceLeDiff, Nat.reduceLT, sizeLine_val, ite_true, ite_false, if_true, if_false, Bool.false_eq_true, Bool.true_eq_false, decide_eq_true_eq, Bool.not_eq_true', Bool.not_true, Bool.not_false, decide_true, decide_false, decide_eq_false_iff_not, D.int.injEq, D.str.injEq, D.bl.injEq, reduceCtorEq, Int.cast_ofNat_Int, Int.reduceNeg, Int.reducePow, Int.reduceLE, Int.reduceLT, Int.reduceToNat, and_self, Int.reduceEq, Int.reduceNe, Nat.reduceEqDiff, not_false_eq_true, not_true_eq_false, Int.toNat_natCast, List.range_succ, List.range_zero, a_turn, nxP_nx, nxP_cnt, nxP_ite, ↓reduceIte, szE, List.getD_cons_zero]
  by_cases h1 : 1 ≤ c
  · by_cases h2 : c ≤ 3
    · simp only [h1, h2, a_kBin2, a_kBin, a_kUn, a_kIfE, a_kAndT, a_kOrT, a_kNotT, a_kCons2, a_kCons, a_kCallB, a_kTup, a_kLst, a_kDrop, a_kRet, a_kIfS, a_kSet, a_kSetF, a_kFor, a_kPar2, a_kPar, a_kAnd, a_kOr, a_kNot, a_kCh3, a_kCh2, a_kCh1, a_kSl3, a_kSl2, a_kSl1, a_koSo, a_kOfL, a_krC2, a_krC, a_krIo, a_krDef, a_kCall, a_kCallIo, a_kRaise, a_ktOf, a_kTgt, a_kRng1, a_kRng2, a_kEn, a_kZp2, a_kZp, a_kiLst, a_kLc2, a_kLc, a_kMut, a_kPut2, a_kPut, a_kDPut2, a_kDPut, a_kFldS, a_kMake, a_kLenO, a_runB, a_C, a_Bin, a_Un, a_If, a_tAnd, a_tOr, a_tNot, a_tYes, a_Nil, a_Cons, a_CallB, a_Tup, a_Lst, a_Next, a_Brk, a_Cnt, a_Bad, a_Seq, a_Drop, a_Ret, a_sIf, a_Set, a_SetF, a_Frz, a_For, a_Par, a_AndS, a_OrS, a_Not, a_ChainS, a_Sl, a_oNo, a_oSo, a_iSqS, a_iEnS, a_rNil, a_rCons, a_rDef, a_rIo, a_CallIo, a_Call, a_Raise, a_Var, a_VarB, a_tOf, a_Tgt, a_RetOwn, a_IoIx, a_iRng1, a_iRng2, a_iEn, a_iZp, a_iLst, a_Lc, a_Mut, a_Put, a_DPut, a_FldS, a_Tried, a_Make, a_LenO, a_ForD0, a_getC, a_setC, a_frzR, bind_ok', bind_exc, bind_bad, bind_ite, andS_ok, andS_exc, andS_bad, andS_ite, of_some, of_none, of_ite, sq_nx, sq_ret, sq_brk, sq_cnt, sq_exc, sq_bad, sq_ite, out_ret, out_nxF, out_exc, out_ite, back_ok, back_exc, back_ite, selB_bl, selB_ite, g_N, g_Tt, g_Tl, g_nil, g_cons, dLt_i, dLe_i, dGt_i, dGe_i, dAdd_i, dSub_i, dNeg_i, dIx_l, dIx_t, cLen_l, cLen_t, cList_l, cList_t, cTuple_l, cTuple_t, cMin_i, cMax_i, atI_zero, atI_one, atI_2, atI_3, atI_4, atI_5, atI_nt, atI_lst, dEq_pl, dNe_pl, dEq_bl, dNe_bl, dIsN_non, dIsN_int, dIsN_str, dIsN_lst, dIsN_tup, dIsN_bl, dNotN_non, dNotN_int, dNotN_str, dNotN_lst, dNotN_tup, dNotN_bl, sqS_l, sqS_t, enS_l, enS_t, noIo, isLst, wipeR, isi_list_n, isi_list_b, isi_list_i, isi_list_s, isi_list_l, isi_list_t, isi_tuple_n, isi_tuple_b, isi_tuple_i, isi_tuple_s, isi_tuple_l, isi_tuple_t, isi_bool_n, isi_bool_b, isi_bool_i, isi_bool_s, isi_bool_l, isi_bool_t, isi_int_n, isi_int_b, isi_int_i, isi_int_s, isi_int_l, isi_int_t, isi_str_n, isi_str_b, isi_str_i, isi_str_s, isi_str_l, isi_str_t, List.foldr_cons, List.foldr_nil, List.getElem?_cons_zero, List.getElem?_cons_succ, List.set_cons_zero, List.set_cons_succ, List.length_cons, List.length_nil, List.replicate_succ, List.replicate_zero, List.cons_append, List.nil_append, List.map_cons, List.map_nil, Nat.reduceAdd, Nat.reduceSub, Nat.reduceLeDiff, Nat.reduceLT, sizeLine_val, ite_true, ite_false, if_true, if_false, Bool.false_eq_true, Bool.true_eq_false, decide_eq_true_eq, Bool.not_eq_true', Bool.not_true, Bool.not_false, decide_true, decide_false, decide_eq_false_iff_not, D.int.injEq, D.str.injEq, D.bl.injEq, reduceCtorEq, Int.cast_ofNat_Int, Int.reduceNeg, Int.reducePow, Int.reduceLE, Int.reduceLT, Int.reduceToNat, and_self, Int.reduceEq, Int.reduceNe, Nat.reduceEqDiff, not_false_eq_true, not_true_eq_false, Int.toNat_natCast, List.range_succ, List.range_zero, a_turn, nxP_nx, nxP_cnt, nxP_ite, ↓reduceIte, not_true_eq_false]
      (repeat' split) <;> rfl
    · simp only [h1, h2, a_kBin2, a_kBin, a_kUn, a_kIfE, a_kAndT, a_kOrT, a_kNotT, a_kCons2, a_kCons, a_kCallB, a_kTup, a_kLst, a_kDrop, a_kRet, a_kIfS, a_kSet, a_kSetF, a_kFor, a_kPar2, a_kPar, a_kAnd, a_kOr, a_kNot, a_kCh3, a_kCh2, a_kCh1, a_kSl3, a_kSl2, a_kSl1, a_koSo, a_kOfL, a_krC2, a_krC, a_krIo, a_krDef, a_kCall, a_kCallIo, a_kRaise, a_ktOf, a_kTgt, a_kRng1, a_kRng2, a_kEn, a_kZp2, a_kZp, a_kiLst, a_kLc2, a_kLc, a_kMut, a_kPut2, a_kPut, a_kDPut2, a_kDPut, a_kFldS, a_kMake, a_kLenO, a_runB, a_C, a_Bin, a_Un, a_If, a_tAnd, a_tOr, a_tNot, a_tYes, a_Nil, a_Cons, a_CallB, a_Tup, a_Lst, a_Next, a_Brk, a_Cnt, a_Bad, a_Seq, a_Drop, a_Ret, a_sIf, a_Set, a_SetF, a_Frz, a_For, a_Par, a_AndS, a_OrS, a_Not, a_ChainS, a_Sl, a_oNo, a_oSo, a_iSqS, a_iEnS, a_rNil, a_rCons, a_rDef, a_rIo, a_CallIo, a_Call, a_Raise, a_Var, a_VarB, a_tOf, a_Tgt, a_RetOwn, a_IoIx, a_iRng1, a_iRng2, a_iEn, a_iZp, a_iLst, a_Lc, a_Mut, a_Put, a_DPut, a_FldS, a_Tried, a_Make, a_LenO, a_ForD0, a_getC, a_setC, a_frzR, bind_ok', bind_exc, bind_bad, bind_ite, andS_ok, andS_exc, andS_bad, andS_ite, of_some, of_none, of_ite, sq_nx, sq_ret, sq_brk, sq_cnt, sq_exc, sq_bad, sq_ite, out_ret, out_nxF, out_exc, out_ite, back_ok, back_exc, back_ite, selB_bl, selB_ite, g_N, g_Tt, g_Tl, g_nil, g_cons, dLt_i, dLe_i, dGt_i, dGe_i, dAdd_i, dSub_i, dNeg_i, dIx_l, dIx_t, cLen_l, cLen_t, cList_l, cList_t, cTuple_l, cTuple_t, cMin_i, cMax_i, atI_zero, atI_one, atI_2, atI_3, atI_4, atI_5, atI_nt, atI_lst, dEq_pl, dNe_pl, dEq_bl, dNe_bl, dIsN_non, dIsN_int, dIsN_str, dIsN_lst, dIsN_tup, dIsN_bl, dNotN_non, dNotN_int, dNotN_str, dNotN_lst, dNotN_tup, dNotN_bl, sqS_l, sqS_t, enS_l, enS_t, noIo, isLst, wipeR, isi_list_n, isi_list_b, isi_list_i, isi_list_s, isi_list_l, isi_list_t, isi_tuple_n, isi_tuple_b, isi_tuple_i, isi_tuple_s, isi_tuple_l, isi_tuple_t, isi_bool_n, isi_bool_b, isi_bool_i, isi_bool_s, isi_bool_l, isi_bool_t, isi_int_n, isi_int_b, isi_int_i, isi_int_s, isi_int_l, isi_int_t, isi_str_n, isi_str_b, isi_str_i, isi_str_s, isi_str_l, isi_str_t, List.foldr_cons, List.foldr_nil, List.getElem?_cons_zero, List.getElem?_cons_succ, List.set_cons_zero, List.set_cons_succ, List.length_cons, List.length_nil, List.replicate_succ, List.replicate_zero, List.cons_append, List.nil_append, List.map_cons, List.map_nil, Nat.reduceAdd, Nat.reduceSub, Nat.reduceLeDiff, Nat.reduceLT, sizeLine_val, ite_true, ite_false, if_true, if_false, Bool.false_eq_true, Bool.true_eq_false, decide_eq_true_eq, Bool.not_eq_true', Bool.not_true, Bool.not_false, decide_true, decide_false, decide_eq_false_iff_not, D.int.injEq, D.str.injEq, D.bl.injEq, reduceCtorEq, Int.cast_ofNat_Int, Int.reduceNeg, Int.reducePow, Int.reduceLE, Int.reduceLT, Int.reduceToNat, and_self, Int.reduceEq, Int.reduceNe, Nat.reduceEqDiff, not_false_eq_true, not_true_eq_false, Int.toNat_natCast, List.range_succ, List.range_zero, a_turn, nxP_nx, nxP_cnt, nxP_ite, ↓reduceIte, and_false, not_false_eq_true, excO]
  · simp only [h1, a_kBin2, a_kBin, a_kUn, a_kIfE, a_kAndT, a_kOrT, a_kNotT, a_kCons2, a_kCons, a_kCallB, a_kTup, a_kLst, a_kDrop, a_kRet, a_kIfS, a_kSet, a_kSetF, a_kFor, a_kPar2, a_kPar, a_kAnd, a_kOr, a_kNot, a_kCh3, a_kCh2, a_kCh1, a_kSl3, a_kSl2, a_kSl1, a_koSo, a_kOfL, a_krC2, a_krC, a_krIo, a_krDef, a_kCall, a_kCallIo, a_kRaise, a_ktOf, a_kTgt, a_kRng1, a_kRng2, a_kEn, a_kZp2, a_kZp, a_kiLst, a_kLc2, a_kLc, a_kMut, a_kPut2, a_kPut, a_kDPut2, a_kDPut, a_kFldS, a_kMake, a_kLenO, a_runB, a_C, a_Bin, a_Un, a_If, a_tAnd, a_tOr, a_tNot, a_tYes, a_Nil, a_Cons, a_CallB, a_Tup, a_Lst, a_Next, a_Brk, a_Cnt, a_Bad, a_Seq, a_Drop, a_Ret, a_sIf, a_Set, a_SetF, a_Frz, a_For, a_Par, a_AndS, a_OrS, a_Not, a_ChainS, a_Sl, a_oNo, a_oSo, a_iSqS, a_iEnS, a_rNil, a_rCons, a_rDef, a_rIo, a_CallIo, a_Call, a_Raise, a_Var, a_VarB, a_tOf, a_Tgt, a_RetOwn, a_IoIx, a_iRng1, a_iRng2, a_iEn, a_iZp, a_iLst, a_Lc, a_Mut, a_Put, a_DPut, a_FldS, a_Tried, a_Make, a_LenO, a_ForD0, a_getC, a_setC, a_frzR, bind_ok', bind_exc, bind_bad, bind_ite, andS_ok, andS_exc, andS_bad, andS_ite, of_some, of_none, of_ite, sq_nx, sq_ret, sq_brk, sq_cnt, sq_exc, sq_bad, sq_ite, out_ret, out_nxF, out_exc, out_ite, back_ok, back_exc, back_ite, selB_bl, selB_ite, g_N, g_Tt, g_Tl, g_nil, g_cons, dLt_i, dLe_i, dGt_i, dGe_i, dAdd_i, dSub_i, dNeg_i, dIx_l, dIx_t, cLen_l, cLen_t, cList_l, cList_t, cTuple_l, cTuple_t, cMin_i, cMax_i, atI_zero, atI_one, atI_2, atI_3, atI_4, atI_5, atI_nt, atI_lst, dEq_pl, dNe_pl, dEq_bl, dNe_bl, dIsN_non, dIsN_int, dIsN_str, dIsN_lst, dIsN_tup, dIsN_bl, dNotN_non, dNotN_int, dNotN_str, dNotN_lst, dNotN_tup, dNotN_bl, sqS_l, sqS_t, enS_l, enS_t, noIo, isLst, wipeR, isi_list_n, isi_list_b, isi_list_i, isi_list_s, isi_list_l, isi_list_t, isi_tuple_n, isi_tuple_b, isi_tuple_i, isi_tuple_s, isi_tuple_l, isi_tuple_t, isi_bool_n, isi_bool_b, isi_bool_i, isi_bool_s, isi_bool_l, isi_bool_t, isi_int_n, isi_int_b, isi_int_i, isi_int_s, isi_int_l, isi_int_t, isi_str_n, isi_str_b, isi_str_i, isi_str_s, isi_str_l, isi_str_t, List.foldr_cons, List.foldr_nil, List.getElem?_cons_zero, List.getElem?_cons_succ, List.set_cons_zero, List.set_cons_succ, List.length_cons, List.length_nil, List.replicate_succ, List.replicate_zero, List.cons_append, List.nil_append, List.map_cons, List.map_nil, Nat.reduceAdd, Nat.reduceSub, Nat.reduceLeDiff, Nat.reduceLT, sizeLine_val, ite_true, ite_false, if_true, if_false, Bool.false_eq_true, Bool.true_eq_false, decide_eq_true_eq, Bool.not_eq_true', Bool.not_true, Bool.not_false, decide_true, decide_false, decide_eq_false_iff_not, D.int.injEq, D.str.injEq, D.bl.injEq, reduceCtorEq, Int.cast_ofNat_Int, Int.reduceNeg, Int.reducePow, Int.reduceLE, Int.reduceLT, Int.reduceToNat, and_self, Int.reduceEq, Int.reduceNe, Nat.reduceEqDiff, not_false_eq_true, not_true_eq_false, Int.toNat_natCast, List.range_succ, List.range_zero, a_turn, nxP_nx, nxP_cnt, nxP_ite, ↓reduceIte, false_and, not_false_eq_true, excO]
theorem size_ok (c n : Int) (ls E : List D) : m_l_size_fault [.fz (.tup [.int c, .int n, .lst ls, .lst E])] [] = .ok ((szD c n ls.length).getD .non) [] := by
  simp only [m_l_size_fault, b_l_size_fault, a_kBin2, a_kBin, a_kUn, a_kIfE, a_kAndT, a_kOrT, a_kNotT, a_kCons2, a_kCons, a_kCallB, a_kTup, a_kLst, a_kDrop, a_kRet, a_kIfS, a_kSet, a_kSetF, a_kFor, a_kPar2, a_kPar, a_kAnd, a_kOr, a_kNot, a_kCh3, a_kCh2, a_kCh1, a_kSl3, a_kSl2, a_kSl1, a_koSo, a_kOfL, a_krC2, a_krC, a_krIo, a_krDef, a_kCall, a_kCallIo, a_kRaise, a_ktOf, a_kTgt, a_kRng1, a_kRng2, a_kEn, a_kZp2, a_kZp, a_kiLst, a_kLc2, a_kLc, a_kMut, a_kPut2, a_kPut, a_kDPut2, a_kDPut, a_kFldS, a_kMake, a_kLenO, a_runB, a_C, a_Bin, a_Un, a_If, a_tAnd, a_tOr, a_tNot, a_tYes, a_Nil, a_Cons, a_CallB, a_Tup, a_Lst, a_Next, a_Brk, a_Cnt, a_Bad, a_Seq, a_Drop, a_Ret, a_sIf, a_Set, a_SetF, a_Frz, a_For, a_Par, a_AndS, a_OrS, a_Not, a_ChainS, a_Sl, a_oNo, a_oSo, a_iSqS, a_iEnS, a_rNil, a_rCons, a_rDef, a_rIo, a_CallIo, a_Call, a_Raise, a_Var, a_VarB, a_tOf, a_Tgt, a_RetOwn, a_IoIx, a_iRng1, a_iRng2, a_iEn, a_iZp, a_iLst, a_Lc, a_Mut, a_Put, a_DPut, a_FldS, a_Tried, a_Make, a_LenO, a_ForD0, a_getC, a_setC, a_frzR, bind_ok', bind_exc, bind_bad, bind_ite, andS_ok, andS_exc, andS_bad, andS_ite, of_some, of_none, of_ite, sq_nx, sq_ret, sq_brk, sq_cnt, sq_exc, sq_bad, sq_ite, out_ret, out_nxF, out_exc, out_ite, back_ok, back_exc, back_ite, selB_bl, selB_ite, g_N, g_Tt, g_Tl, g_nil, g_cons, dLt_i, dLe_i, dGt_i, dGe_i, dAdd_i, dSub_i, dNeg_i, dIx_l, dIx_t, cLen_l, cLen_t, cList_l, cList_t, cTuple_l, cTuple_t, cMin_i, cMax_i, atI_zero, atI_one, atI_2, atI_3, atI_4, atI_5, atI_nt, atI_lst, dEq_pl, dNe_pl, dEq_bl, dNe_bl, dIsN_non, dIsN_int, dIsN_str, dIsN_lst, dIsN_tup, dIsN_bl, dNotN_non, dNotN_int, dNotN_str, dNotN_lst, dNotN_tup, dNotN_bl, sqS_l, sqS_t, enS_l, enS_t, noIo, isLst, wipeR, isi_list_n, isi_list_b, isi_list_i, isi_list_s, isi_list_l, isi_list_t, isi_tuple_n, isi_tuple_b, isi_tuple_i, isi_tuple_s, isi_tuple_l, isi_tuple_t, isi_bool_n, isi_bool_b, isi_bool_i, isi_bool_s, isi_bool_l, isi_bool_t, isi_int_n, isi_int_b, isi_int_i, isi_int_s, isi_int_l, isi_int_t, isi_str_n, isi_str_b, isi_str_i, isi_str_s, isi_str_l, isi_str_t, List.foldr_cons, List.foldr_nil, List.getElem?_cons_zero, List.getElem?_cons_succ, List.set_cons_zero, List.set_cons_succ, List.length_cons, List.length_nil, List.replicate_succ, List.replicate_zero, List.cons_append, List.nil_append, List.map_cons, List.map_nil, Nat.reduceAdd, Nat.reduceSub, Nat.reduceLeDiff, Nat.reduceLT, sizeLine_val, ite_true, ite_false, if_true, if_false, Bool.false_eq_true, Bool.true_eq_false, decide_eq_true_eq, Bool.not_eq_true', Bool.not_true, Bool.not_false, decide_true, decide_false, decide_eq_false_iff_not, D.int.injEq, D.str.injEq, D.bl.injEq, reduceCtorEq, Int.cast_ofNat_Int, Int.reduceNeg, Int.reducePow, Int.reduceLE, Int.reduceLT, Int.reduceToNat, and_self, Int.reduceEq, Int.reduceNe, Nat.reduceEqDiff, not_false_eq_true, not_true_eq_false, Int.toNat_natCast, List.range_succ, List.range_zero, a_turn, nxP_nx, nxP_cnt, nxP_ite, ↓reduceIte, szD]
  by_cases h1 : 1 ≤ c
  · by_cases h2 : c ≤ 3
    · simp only [h1, h2, a_kBin2, a_kBin, a_kUn, a_kIfE, a_kAndT, a_kOrT, a_kNotT, a_kCons2, a_kCons, a_kCallB, a_kTup, a_kLst, a_kDrop, a_kRet, a_kIfS, a_kSet, a_kSetF, a_kFor, a_kPar2, a_kPar, a_kAnd, a_kOr, a_kNot, a_kCh3, a_kCh2, a_kCh1, a_kSl3, a_kSl2, a_kSl1, a_koSo, a_kOfL, a_krC2, a_krC, a_krIo, a_krDef, a_kCall, a_kCallIo, a_kRaise, a_ktOf, a_kTgt, a_kRng1, a_kRng2, a_kEn, a_kZp2, a_kZp, a_kiLst, a_kLc2, a_kLc, a_kMut, a_kPut2, a_kPut, a_kDPut2, a_kDPut, a_kFldS, a_kMake, a_kLenO, a_runB, a_C, a_Bin, a_Un, a_If, a_tAnd, a_tOr, a_tNot, a_tYes, a_Nil, a_Cons, a_CallB, a_Tup, a_Lst, a_Next, a_Brk, a_Cnt, a_Bad, a_Seq, a_Drop, a_Ret, a_sIf, a_Set, a_SetF, a_Frz, a_For, a_Par, a_AndS, a_OrS, a_Not, a_ChainS, a_Sl, a_oNo, a_oSo, a_iSqS, a_iEnS, a_rNil, a_rCons, a_rDef, a_rIo, a_CallIo, a_Call, a_Raise, a_Var, a_VarB, a_tOf, a_Tgt, a_RetOwn, a_IoIx, a_iRng1, a_iRng2, a_iEn, a_iZp, a_iLst, a_Lc, a_Mut, a_Put, a_DPut, a_FldS, a_Tried, a_Make, a_LenO, a_ForD0, a_getC, a_setC, a_frzR, bind_ok', bind_exc, bind_bad, bind_ite, andS_ok, andS_exc, andS_bad, andS_ite, of_some, of_none, of_ite, sq_nx, sq_ret, sq_brk, sq_cnt, sq_exc, sq_bad, sq_ite, out_ret, out_nxF, out_exc, out_ite, back_ok, back_exc, back_ite, selB_bl, selB_ite, g_N, g_Tt, g_Tl, g_nil, g_cons, dLt_i, dLe_i, dGt_i, dGe_i, dAdd_i, dSub_i, dNeg_i, dIx_l, dIx_t, cLen_l, cLen_t, cList_l, cList_t, cTuple_l, cTuple_t, cMin_i, cMax_i, atI_zero, atI_one, atI_2, atI_3, atI_4, atI_5, atI_nt, atI_lst, dEq_pl, dNe_pl, dEq_bl, dNe_bl, dIsN_non, dIsN_int, dIsN_str, dIsN_lst, dIsN_tup, dIsN_bl, dNotN_non, dNotN_int, dNotN_str, dNotN_lst, dNotN_tup, dNotN_bl, sqS_l, sqS_t, enS_l, enS_t, noIo, isLst, wipeR, isi_list_n, isi_list_b, isi_list_i, isi_list_s, isi_list_l, isi_list_t, isi_tuple_n, isi_tuple_b, isi_tuple_i, isi_tuple_s, isi_tuple_l, isi_tuple_t, isi_bool_n, isi_bool_b, isi_bool_i, isi_bool_s, isi_bool_l, isi_bool_t, isi_int_n, isi_int_b, isi_int_i, isi_int_s, isi_int_l, isi_int_t, isi_str_n, isi_str_b, isi_str_i, isi_str_s, isi_str_l, isi_str_t, List.foldr_cons, List.foldr_nil, List.getElem?_cons_zero, List.getElem?_cons_succ, List.set_cons_zero, List.set_cons_succ, List.length_cons, List.length_nil, List.replicate_succ, List.replicate_zero, List.cons_append, List.nil_append, List.map_cons, List.map_nil, Nat.reduceAdd, Nat.reduceSub, Nat.reduceLeDiff, Nat.reduceLT, sizeLine_val, ite_true, ite_false, if_true, if_false, Bool.false_eq_true, Bool.true_eq_false, decide_eq_true_eq, Bool.not_eq_true', Bool.not_true, Bool.not_false, decide_true, decide_false, decide_eq_false_iff_not, D.int.injEq, D.str.injEq, D.bl.injEq, reduceCtorEq, Int.cast_ofNat_Int, Int.reduceNeg, Int.reducePow, Int.reduceLE, Int.reduceLT, Int.reduceToNat, and_self, Int.reduceEq, Int.reduceNe, Nat.reduceEqDiff, not_false_eq_true, not_true_eq_false, Int.toNat_natCast, List.range_succ, List.range_zero, a_turn, nxP_nx, nxP_cnt, nxP_ite, ↓reduceIte, not_true_eq_false]
      (repeat' split) <;> first | rfl | omega
    · simp only [h1, h2, a_kBin2, a_kBin, a_kUn, a_kIfE, a_kAndT, a_kOrT, a_kNotT, a_kCons2, a_kCons, a_kCallB, a_kTup, a_kLst, a_kDrop, a_kRet, a_kIfS, a_kSet, a_kSetF, a_kFor, a_kPar2, a_kPar, a_kAnd, a_kOr, a_kNot, a_kCh3, a_kCh2, a_kCh1, a_kSl3, a_kSl2, a_kSl1, a_koSo, a_kOfL, a_krC2, a_krC, a_krIo, a_krDef, a_kCall, a_kCallIo, a_kRaise, a_ktOf, a_kTgt, a_kRng1, a_kRng2, a_kEn, a_kZp2, a_kZp, a_kiLst, a_kLc2, a_kLc, a_kMut, a_kPut2, a_kPut, a_kDPut2, a_kDPut, a_kFldS, a_kMake, a_kLenO, a_runB, a_C, a_Bin, a_Un, a_If, a_tAnd, a_tOr, a_tNot, a_tYes, a_Nil, a_Cons, a_CallB, a_Tup, a_Lst, a_Next, a_Brk, a_Cnt, a_Bad, a_Seq, a_Drop, a_Ret, a_sIf, a_Set, a_SetF, a_Frz, a_For, a_Par, a_AndS, a_OrS, a_Not, a_ChainS, a_Sl, a_oNo, a_oSo, a_iSqS, a_iEnS, a_rNil, a_rCons, a_rDef, a_rIo, a_CallIo, a_Call, a_Raise, a_Var, a_VarB, a_tOf, a_Tgt, a_RetOwn, a_IoIx, a_iRng1, a_iRng2, a_iEn, a_iZp, a_iLst, a_Lc, a_Mut, a_Put, a_DPut, a_FldS, a_Tried, a_Make, a_LenO, a_ForD0, a_getC, a_setC, a_frzR, bind_ok', bind_exc, bind_bad, bind_ite, andS_ok, andS_exc, andS_bad, andS_ite, of_some, of_none, of_ite, sq_nx, sq_ret, sq_brk, sq_cnt, sq_exc, sq_bad, sq_ite, out_ret, out_nxF, out_exc, out_ite, back_ok, back_exc, back_ite, selB_bl, selB_ite, g_N, g_Tt, g_Tl, g_nil, g_cons, dLt_i, dLe_i, dGt_i, dGe_i, dAdd_i, dSub_i, dNeg_i, dIx_l, dIx_t, cLen_l, cLen_t, cList_l, cList_t, cTuple_l, cTuple_t, cMin_i, cMax_i, atI_zero, atI_one, atI_2, atI_3, atI_4, atI_5, atI_nt, atI_lst, dEq_pl, dNe_pl, dEq_bl, dNe_bl, dIsN_non, dIsN_int, dIsN_str, dIsN_lst, dIsN_tup, dIsN_bl, dNotN_non, dNotN_int, dNotN_str, dNotN_lst, dNotN_tup, dNotN_bl, sqS_l, sqS_t, enS_l, enS_t, noIo, isLst, wipeR, isi_list_n, isi_list_b, isi_list_i, isi_list_s, isi_list_l, isi_list_t, isi_tuple_n, isi_tuple_b, isi_tuple_i, isi_tuple_s, isi_tuple_l, isi_tuple_t, isi_bool_n, isi_bool_b, isi_bool_i, isi_bool_s, isi_bool_l, isi_bool_t, isi_int_n, isi_int_b, isi_int_i, isi_int_s, isi_int_l, isi_int_t, isi_str_n, isi_str_b, isi_str_i, isi_str_s, isi_str_l, isi_str_t, List.foldr_cons, List.foldr_nil, List.getElem?_cons_zero, List.getElem?_cons_succ, List.set_cons_zero, List.set_cons_succ, List.length_cons, List.length_nil, List.replicate_succ, List.replicate_zero, List.cons_append, List.nil_append, List.map_cons, List.map_nil, Nat.reduceAdd, Nat.reduceSub, Nat.reduceLeDiff, Nat.reduceLT, sizeLine_val, ite_true, ite_false, if_true, if_false, Bool.false_eq_true, Bool.true_eq_false, decide_eq_true_eq, Bool.not_eq_true', Bool.not_true, Bool.not_false, decide_true, decide_false, decide_eq_false_iff_not, D.int.injEq, D.str.injEq, D.bl.injEq, reduceCtorEq, Int.cast_ofNat_Int, Int.reduceNeg, Int.reducePow, Int.reduceLE, Int.reduceLT, Int.reduceToNat, and_self, Int.reduceEq, Int.reduceNe, Nat.reduceEqDiff, not_false_eq_true, not_true_eq_false, Int.toNat_natCast, List.range_succ, List.range_zero, a_turn, nxP_nx, nxP_cnt, nxP_ite, ↓reduceIte, and_false, not_false_eq_true, Option.getD_some]
  · simp only [h1, a_kBin2, a_kBin, a_kUn, a_kIfE, a_kAndT, a_kOrT, a_kNotT, a_kCons2, a_kCons, a_kCallB, a_kTup, a_kLst, a_kDrop, a_kRet, a_kIfS, a_kSet, a_kSetF, a_kFor, a_kPar2, a_kPar, a_kAnd, a_kOr, a_kNot, a_kCh3, a_kCh2, a_kCh1, a_kSl3, a_kSl2, a_kSl1, a_koSo, a_kOfL, a_krC2, a_krC, a_krIo, a_krDef, a_kCall, a_kCallIo, a_kRaise, a_ktOf, a_kTgt, a_kRng1, a_kRng2, a_kEn, a_kZp2, a_kZp, a_kiLst, a_kLc2, a_kLc, a_kMut, a_kPut2, a_kPut, a_kDPut2, a_kDPut, a_kFldS, a_kMake, a_kLenO, a_runB, a_C, a_Bin, a_Un, a_If, a_tAnd, a_tOr, a_tNot, a_tYes, a_Nil, a_Cons, a_CallB, a_Tup, a_Lst, a_Next, a_Brk, a_Cnt, a_Bad, a_Seq, a_Drop, a_Ret, a_sIf, a_Set, a_SetF, a_Frz, a_For, a_Par, a_AndS, a_OrS, a_Not, a_ChainS, a_Sl, a_oNo, a_oSo, a_iSqS, a_iEnS, a_rNil, a_rCons, a_rDef, a_rIo, a_CallIo, a_Call, a_Raise, a_Var, a_VarB, a_tOf, a_Tgt, a_RetOwn, a_IoIx, a_iRng1, a_iRng2, a_iEn, a_iZp, a_iLst, a_Lc, a_Mut, a_Put, a_DPut, a_FldS, a_Tried, a_Make, a_LenO, a_ForD0, a_getC, a_setC, a_frzR, bind_ok', bind_exc, bind_bad, bind_ite, andS_ok, andS_exc, andS_bad, andS_ite, of_some, of_none, of_ite, sq_nx, sq_ret, sq_brk, sq_cnt, sq_exc, sq_bad, sq_ite, out_ret, out_nxF, out_exc, out_ite, back_ok, back_exc, back_ite, selB_bl, selB_ite, g_N, g_Tt, g_Tl, g_nil, g_cons, dLt_i, dLe_i, dGt_i, dGe_i, dAdd_i, dSub_i, dNeg_i, dIx_l, dIx_t, cLen_l, cLen_t, cList_l, cList_t, cTuple_l, cTuple_t, cMin_i, cMax_i, atI_zero, atI_one, atI_2, atI_3, atI_4, atI_5, atI_nt, atI_lst, dEq_pl, dNe_pl, dEq_bl, dNe_bl, dIsN_non, dIsN_int, dIsN_str, dIsN_lst, dIsN_tup, dIsN_bl, dNotN_non, dNotN_int, dNotN_str, dNotN_lst, dNotN_tup, dNotN_bl, sqS_l, sqS_t, enS_l, enS_t, noIo, isLst, wipeR, isi_list_n, isi_list_b, isi_list_i, isi_list_s, isi_list_l, isi_list_t, isi_tuple_n, isi_tuple_b, isi_tuple_i, isi_tuple_s, isi_tuple_l, isi_tuple_t, isi_bool_n, isi_bool_b, isi_bool_i, isi_bool_s, isi_bool_l, isi_bool_t, isi_int_n, isi_int_b, isi_int_i, isi_int_s, isi_int_l, isi_int_t, isi_str_n, isi_str_b, isi_str_i, isi_str_s, isi_str_l, isi_str_t, List.foldr_cons, List.foldr_nil, List.getElem?_cons_zero, List.getElem?_cons_succ, List.set_cons_zero, List.set_cons_succ, List.length_cons, List.length_nil, List.replicate_succ, List.replicate_zero, List.cons_append, List.nil_append, List.map_cons, List.map_nil, Nat.reduceAdd, Nat.reduceSub, Nat.reduceLeDiff, Nat.reduceLT, sizeLine_val, ite_true, ite_false, if_true, if_false, Bool.false_eq_true, Bool.true_eq_false, decide_eq_true_eq, Bool.not_eq_true', Bool.not_true, Bool.not_false, decide_true, decide_false, decide_eq_false_iff_not, D.int.injEq, D.str.injEq, D.bl.injEq, reduceCtorEq, Int.cast_ofNat_Int, Int.reduceNeg, Int.reducePow, Int.reduceLE, Int.reduceLT, Int.reduceToNat, and_self, Int.reduceEq, Int.reduceNe, Nat.reduceEqDiff, not_false_eq_true, not_true_eq_false, Int.toNat_natCast, List.range_succ, List.range_zero, a_turn, nxP_nx, nxP_cnt, nxP_ite, ↓reduceIte, false_and, not_false_eq_true, Option.getD_some]
def faultD (c n : Int) (L : List Ed) (d : D) : D := match ef c n L with
  | some i => efD (some i)
  | none => d
theorem net_fault_9 (c n : Int) (L : List Ed) (hl : L.length ≤ 1000) (hs : szE c n L.length = none) : m_net_fault [.fz (.int c), .fz (.int n), .fz (.lst (L.map tri)), .fz (.lst [.tup [.int 9]])] [] = .ok (faultD c n L (.tup [.str "swap", .int 0])) [] := by
  have h1 : m_check_sizes [.fz (.int c), .fz (.int n), .fz (.lst (L.map tri))] [] = .ok .non [] := by rw [check_ok, List.length_map, hs]; rfl
  have h2 : m_swap_fault [.fz (.lst (L.map tri)), .fz (.lst [.tup [.int 9]])] [] = .ok (.tup [.str "swap", .int 0]) [] := by
    have h : m_is_swap [.fz (.lst (L.map tri)), .fz (.tup [.int 9])] [] = .ok (.bl false) [] := by
      simp only [m_is_swap, b_is_swap, a_kBin2, a_kBin, a_kUn, a_kIfE, a_kAndT, a_kOrT, a_kNotT, a_kCons2, a_kCons, a_kCallB, a_kTup, a_kLst, a_kDrop, a_kRet, a_kIfS, a_kSet, a_kSetF, a_kFor, a_kPar2, a_kPar, a_kAnd, a_kOr, a_kNot, a_kCh3, a_kCh2, a_kCh1, a_kSl3, a_kSl2, a_kSl1, a_koSo, a_kOfL, a_krC2, a_krC, a_krIo, a_krDef, a_kCall, a_kCallIo, a_kRaise, a_ktOf, a_kTgt, a_kRng1, a_kRng2, a_kEn, a_kZp2, a_kZp, a_kiLst, a_kLc2, a_kLc, a_kMut, a_kPut2, a_kPut, a_kDPut2, a_kDPut, a_kFldS, a_kMake, a_kLenO, a_runB, a_C, a_Bin, a_Un, a_If, a_tAnd, a_tOr, a_tNot, a_tYes, a_Nil, a_Cons, a_CallB, a_Tup, a_Lst, a_Next, a_Brk, a_Cnt, a_Bad, a_Seq, a_Drop, a_Ret, a_sIf, a_Set, a_SetF, a_Frz, a_For, a_Par, a_AndS, a_OrS, a_Not, a_ChainS, a_Sl, a_oNo, a_oSo, a_iSqS, a_iEnS, a_rNil, a_rCons, a_rDef, a_rIo, a_CallIo, a_Call, a_Raise, a_Var, a_VarB, a_tOf, a_Tgt, a_RetOwn, a_IoIx, a_iRng1, a_iRng2, a_iEn, a_iZp, a_iLst, a_Lc, a_Mut, a_Put, a_DPut, a_FldS, a_Tried, a_Make, a_LenO, a_ForD0, a_getC, a_setC, a_frzR, bind_ok', bind_exc, bind_bad, bind_ite, andS_ok, andS_exc, andS_bad, andS_ite, of_some, of_none, of_ite, sq_nx, sq_ret, sq_brk, sq_cnt, sq_exc, sq_bad, sq_ite, out_ret, out_nxF, out_exc, out_ite, back_ok, back_exc, back_ite, selB_bl, selB_ite, g_N, g_Tt, g_Tl, g_nil, g_cons, dLt_i, dLe_i, dGt_i, dGe_i, dAdd_i, dSub_i, dNeg_i, dIx_l, dIx_t, cLen_l, cLen_t, cList_l, cList_t, cTuple_l, cTuple_t, cMin_i, cMax_i, atI_zero, atI_one, atI_2, atI_3, atI_4, atI_5, atI_nt, atI_lst, dEq_pl, dNe_pl, dEq_bl, dNe_bl, dIsN_non, dIsN_int, dIsN_str, dIsN_lst, dIsN_tup, dIsN_bl, dNotN_non, dNotN_int, dNotN_str, dNotN_lst, dNotN_tup, dNotN_bl, sqS_l, sqS_t, enS_l, enS_t, noIo, isLst, wipeR, isi_list_n, isi_list_b, isi_list_i, isi_list_s, isi_list_l, isi_list_t, isi_tuple_n, isi_tuple_b, isi_tuple_i, isi_tuple_s, isi_tuple_l, isi_tuple_t, isi_bool_n, isi_bool_b, isi_bool_i, isi_bool_s, isi_bool_l, isi_bool_t, isi_int_n, isi_int_b, isi_int_i, isi_int_s, isi_int_l, isi_int_t, isi_str_n, isi_str_b, isi_str_i, isi_str_s, isi_str_l, isi_str_t, List.foldr_cons, List.foldr_nil, List.getElem?_cons_zero, List.getElem?_cons_succ, List.set_cons_zero, List.set_cons_succ, List.length_cons, List.length_nil, List.replicate_succ, List.replicate_zero, List.cons_append, List.nil_append, List.map_cons, List.map_nil, Nat.reduceAdd, Nat.reduceSub, Nat.reduceLeDiff, Nat.reduceLT, sizeLine_val, ite_true, ite_false, if_true, if_false, Bool.false_eq_true, Bool.true_eq_false, decide_eq_true_eq, Bool.not_eq_true', Bool.not_true, Bool.not_false, decide_true, decide_false, decide_eq_false_iff_not, D.int.injEq, D.str.injEq, D.bl.injEq, reduceCtorEq, Int.cast_ofNat_Int, Int.reduceNeg, Int.reducePow, Int.reduceLE, Int.reduceLT, Int.reduceToNat, and_self, Int.reduceEq, Int.reduceNe, Nat.reduceEqDiff, not_false_eq_true, not_true_eq_false, Int.toNat_natCast, List.range_succ, List.range_zero, a_turn, nxP_nx, nxP_cnt, nxP_ite, ↓reduceIte]
    simp only [m_swap_fault, b_swap_fault, a_kBin2, a_kBin, a_kUn, a_kIfE, a_kAndT, a_kOrT, a_kNotT, a_kCons2, a_kCons, a_kCallB, a_kTup, a_kLst, a_kDrop, a_kRet, a_kIfS, a_kSet, a_kSetF, a_kFor, a_kPar2, a_kPar, a_kAnd, a_kOr, a_kNot, a_kCh3, a_kCh2, a_kCh1, a_kSl3, a_kSl2, a_kSl1, a_koSo, a_kOfL, a_krC2, a_krC, a_krIo, a_krDef, a_kCall, a_kCallIo, a_kRaise, a_ktOf, a_kTgt, a_kRng1, a_kRng2, a_kEn, a_kZp2, a_kZp, a_kiLst, a_kLc2, a_kLc, a_kMut, a_kPut2, a_kPut, a_kDPut2, a_kDPut, a_kFldS, a_kMake, a_kLenO, a_runB, a_C, a_Bin, a_Un, a_If, a_tAnd, a_tOr, a_tNot, a_tYes, a_Nil, a_Cons, a_CallB, a_Tup, a_Lst, a_Next, a_Brk, a_Cnt, a_Bad, a_Seq, a_Drop, a_Ret, a_sIf, a_Set, a_SetF, a_Frz, a_For, a_Par, a_AndS, a_OrS, a_Not, a_ChainS, a_Sl, a_oNo, a_oSo, a_iSqS, a_iEnS, a_rNil, a_rCons, a_rDef, a_rIo, a_CallIo, a_Call, a_Raise, a_Var, a_VarB, a_tOf, a_Tgt, a_RetOwn, a_IoIx, a_iRng1, a_iRng2, a_iEn, a_iZp, a_iLst, a_Lc, a_Mut, a_Put, a_DPut, a_FldS, a_Tried, a_Make, a_LenO, a_ForD0, a_getC, a_setC, a_frzR, bind_ok', bind_exc, bind_bad, bind_ite, andS_ok, andS_exc, andS_bad, andS_ite, of_some, of_none, of_ite, sq_nx, sq_ret, sq_brk, sq_cnt, sq_exc, sq_bad, sq_ite, out_ret, out_nxF, out_exc, out_ite, back_ok, back_exc, back_ite, selB_bl, selB_ite, g_N, g_Tt, g_Tl, g_nil, g_cons, dLt_i, dLe_i, dGt_i, dGe_i, dAdd_i, dSub_i, dNeg_i, dIx_l, dIx_t, cLen_l, cLen_t, cList_l, cList_t, cTuple_l, cTuple_t, cMin_i, cMax_i, atI_zero, atI_one, atI_2, atI_3, atI_4, atI_5, atI_nt, atI_lst, dEq_pl, dNe_pl, dEq_bl, dNe_bl, dIsN_non, dIsN_int, dIsN_str, dIsN_lst, dIsN_tup, dIsN_bl, dNotN_non, dNotN_int, dNotN_str, dNotN_lst, dNotN_tup, dNotN_bl, sqS_l, sqS_t, enS_l, enS_t, noIo, isLst, wipeR, isi_list_n, isi_list_b, isi_list_i, isi_list_s, isi_list_l, isi_list_t, isi_tuple_n, isi_tuple_b, isi_tuple_i, isi_tuple_s, isi_tuple_l, isi_tuple_t, isi_bool_n, isi_bool_b, isi_bool_i, isi_bool_s, isi_bool_l, isi_bool_t, isi_int_n, isi_int_b, isi_int_i, isi_int_s, isi_int_l, isi_int_t, isi_str_n, isi_str_b, isi_str_i, isi_str_s, isi_str_l, isi_str_t, List.foldr_cons, List.foldr_nil, List.getElem?_cons_zero, List.getElem?_cons_succ, List.set_cons_zero, List.set_cons_succ, List.length_cons, List.length_nil, List.replicate_succ, List.replicate_zero, List.cons_append, List.nil_append, List.map_cons, List.map_nil, Nat.reduceAdd, Nat.reduceSub, Nat.reduceLeDiff, Nat.reduceLT, sizeLine_val, ite_true, ite_false, if_true, if_false, Bool.false_eq_true, Bool.true_eq_false, decide_eq_true_eq, Bool.not_eq_true', Bool.not_true, Bool.not_false, decide_true, decide_false, decide_eq_false_iff_not, D.int.injEq, D.str.injEq, D.bl.injEq, reduceCtorEq, Int.cast_ofNat_Int, Int.reduceNeg, Int.reducePow, Int.reduceLE, Int.reduceLT, Int.reduceToNat, and_self, Int.reduceEq, Int.reduceNe, Nat.reduceEqDiff, not_false_eq_true, not_true_eq_false, Int.toNat_natCast, List.range_succ, List.range_zero, a_turn, nxP_nx, nxP_cnt, nxP_ite, ↓reduceIte, List.zipIdx_cons, List.zipIdx_nil, for_turn, lg_swap_fault_0, lb_swap_fault_0, h, lp_ret]
  simp only [m_net_fault, b_net_fault, a_kBin2, a_kBin, a_kUn, a_kIfE, a_kAndT, a_kOrT, a_kNotT, a_kCons2, a_kCons, a_kCallB, a_kTup, a_kLst, a_kDrop, a_kRet, a_kIfS, a_kSet, a_kSetF, a_kFor, a_kPar2, a_kPar, a_kAnd, a_kOr, a_kNot, a_kCh3, a_kCh2, a_kCh1, a_kSl3, a_kSl2, a_kSl1, a_koSo, a_kOfL, a_krC2, a_krC, a_krIo, a_krDef, a_kCall, a_kCallIo, a_kRaise, a_ktOf, a_kTgt, a_kRng1, a_kRng2, a_kEn, a_kZp2, a_kZp, a_kiLst, a_kLc2, a_kLc, a_kMut, a_kPut2, a_kPut, a_kDPut2, a_kDPut, a_kFldS, a_kMake, a_kLenO, a_runB, a_C, a_Bin, a_Un, a_If, a_tAnd, a_tOr, a_tNot, a_tYes, a_Nil, a_Cons, a_CallB, a_Tup, a_Lst, a_Next, a_Brk, a_Cnt, a_Bad, a_Seq, a_Drop, a_Ret, a_sIf, a_Set, a_SetF, a_Frz, a_For, a_Par, a_AndS, a_OrS, a_Not, a_ChainS, a_Sl, a_oNo, a_oSo, a_iSqS, a_iEnS, a_rNil, a_rCons, a_rDef, a_rIo, a_CallIo, a_Call, a_Raise, a_Var, a_VarB, a_tOf, a_Tgt, a_RetOwn, a_IoIx, a_iRng1, a_iRng2, a_iEn, a_iZp, a_iLst, a_Lc, a_Mut, a_Put, a_DPut, a_FldS, a_Tried, a_Make, a_LenO, a_ForD0, a_getC, a_setC, a_frzR, bind_ok', bind_exc, bind_bad, bind_ite, andS_ok, andS_exc, andS_bad, andS_ite, of_some, of_none, of_ite, sq_nx, sq_ret, sq_brk, sq_cnt, sq_exc, sq_bad, sq_ite, out_ret, out_nxF, out_exc, out_ite, back_ok, back_exc, back_ite, selB_bl, selB_ite, g_N, g_Tt, g_Tl, g_nil, g_cons, dLt_i, dLe_i, dGt_i, dGe_i, dAdd_i, dSub_i, dNeg_i, dIx_l, dIx_t, cLen_l, cLen_t, cList_l, cList_t, cTuple_l, cTuple_t, cMin_i, cMax_i, atI_zero, atI_one, atI_2, atI_3, atI_4, atI_5, atI_nt, atI_lst, dEq_pl, dNe_pl, dEq_bl, dNe_bl, dIsN_non, dIsN_int, dIsN_str, dIsN_lst, dIsN_tup, dIsN_bl, dNotN_non, dNotN_int, dNotN_str, dNotN_lst, dNotN_tup, dNotN_bl, sqS_l, sqS_t, enS_l, enS_t, noIo, isLst, wipeR, isi_list_n, isi_list_b, isi_list_i, isi_list_s, isi_list_l, isi_list_t, isi_tuple_n, isi_tuple_b, isi_tuple_i, isi_tuple_s, isi_tuple_l, isi_tuple_t, isi_bool_n, isi_bool_b, isi_bool_i, isi_bool_s, isi_bool_l, isi_bool_t, isi_int_n, isi_int_b, isi_int_i, isi_int_s, isi_int_l, isi_int_t, isi_str_n, isi_str_b, isi_str_i, isi_str_s, isi_str_l, isi_str_t, List.foldr_cons, List.foldr_nil, List.getElem?_cons_zero, List.getElem?_cons_succ, List.set_cons_zero, List.set_cons_succ, List.length_cons, List.length_nil, List.replicate_succ, List.replicate_zero, List.cons_append, List.nil_append, List.map_cons, List.map_nil, Nat.reduceAdd, Nat.reduceSub, Nat.reduceLeDiff, Nat.reduceLT, sizeLine_val, ite_true, ite_false, if_true, if_false, Bool.false_eq_true, Bool.true_eq_false, decide_eq_true_eq, Bool.not_eq_true', Bool.not_true, Bool.not_false, decide_true, decide_false, decide_eq_false_iff_not, D.int.injEq, D.str.injEq, D.bl.injEq, reduceCtorEq, Int.cast_ofNat_Int, Int.reduceNeg, Int.reducePow, Int.reduceLE, Int.reduceLT, Int.reduceToNat, and_self, Int.reduceEq, Int.reduceNe, Nat.reduceEqDiff, not_false_eq_true, not_true_eq_false, Int.toNat_natCast, List.range_succ, List.range_zero, a_turn, nxP_nx, nxP_cnt, nxP_ite, ↓reduceIte, h1, edge_fault_ok, faultD]
  cases he : ef c n L with
  | none => simp only [efD, a_kBin2, a_kBin, a_kUn, a_kIfE, a_kAndT, a_kOrT, a_kNotT, a_kCons2, a_kCons, a_kCallB, a_kTup, a_kLst, a_kDrop, a_kRet, a_kIfS, a_kSet, a_kSetF, a_kFor, a_kPar2, a_kPar, a_kAnd, a_kOr, a_kNot, a_kCh3, a_kCh2, a_kCh1, a_kSl3, a_kSl2, a_kSl1, a_koSo, a_kOfL, a_krC2, a_krC, a_krIo, a_krDef, a_kCall, a_kCallIo, a_kRaise, a_ktOf, a_kTgt, a_kRng1, a_kRng2, a_kEn, a_kZp2, a_kZp, a_kiLst, a_kLc2, a_kLc, a_kMut, a_kPut2, a_kPut, a_kDPut2, a_kDPut, a_kFldS, a_kMake, a_kLenO, a_runB, a_C, a_Bin, a_Un, a_If, a_tAnd, a_tOr, a_tNot, a_tYes, a_Nil, a_Cons, a_CallB, a_Tup, a_Lst, a_Next, a_Brk, a_Cnt, a_Bad, a_Seq, a_Drop, a_Ret, a_sIf, a_Set, a_SetF, a_Frz, a_For, a_Par, a_AndS, a_OrS, a_Not, a_ChainS, a_Sl, a_oNo, a_oSo, a_iSqS, a_iEnS, a_rNil, a_rCons, a_rDef, a_rIo, a_CallIo, a_Call, a_Raise, a_Var, a_VarB, a_tOf, a_Tgt, a_RetOwn, a_IoIx, a_iRng1, a_iRng2, a_iEn, a_iZp, a_iLst, a_Lc, a_Mut, a_Put, a_DPut, a_FldS, a_Tried, a_Make, a_LenO, a_ForD0, a_getC, a_setC, a_frzR, bind_ok', bind_exc, bind_bad, bind_ite, andS_ok, andS_exc, andS_bad, andS_ite, of_some, of_none, of_ite, sq_nx, sq_ret, sq_brk, sq_cnt, sq_exc, sq_bad, sq_ite, out_ret, out_nxF, out_exc, out_ite, back_ok, back_exc, back_ite, selB_bl, selB_ite, g_N, g_Tt, g_Tl, g_nil, g_cons, dLt_i, dLe_i, dGt_i, dGe_i, dAdd_i, dSub_i, dNeg_i, dIx_l, dIx_t, cLen_l, cLen_t, cList_l, cList_t, cTuple_l, cTuple_t, cMin_i, cMax_i, atI_zero, atI_one, atI_2, atI_3, atI_4, atI_5, atI_nt, atI_lst, dEq_pl, dNe_pl, dEq_bl, dNe_bl, dIsN_non, dIsN_int, dIsN_str, dIsN_lst, dIsN_tup, dIsN_bl, dNotN_non, dNotN_int, dNotN_str, dNotN_lst, dNotN_tup, dNotN_bl, sqS_l, sqS_t, enS_l, enS_t, noIo, isLst, wipeR, isi_list_n, isi_list_b, isi_list_i, isi_list_s, isi_list_l, isi_list_t, isi_tuple_n, isi_tuple_b, isi_tuple_i, isi_tuple_s, isi_tuple_l, isi_tuple_t, isi_bool_n, isi_bool_b, isi_bool_i, isi_bool_s, isi_bool_l, isi_bool_t, isi_int_n, isi_int_b, isi_int_i, isi_int_s, isi_int_l, isi_int_t, isi_str_n, isi_str_b, isi_str_i, isi_str_s, isi_str_l, isi_str_t, List.foldr_cons, List.foldr_nil, List.getElem?_cons_zero, List.getElem?_cons_succ, List.set_cons_zero, List.set_cons_succ, List.length_cons, List.length_nil, List.replicate_succ, List.replicate_zero, List.cons_append, List.nil_append, List.map_cons, List.map_nil, Nat.reduceAdd, Nat.reduceSub, Nat.reduceLeDiff, Nat.reduceLT, sizeLine_val, ite_true, ite_false, if_true, if_false, Bool.false_eq_true, Bool.true_eq_false, decide_eq_true_eq, Bool.not_eq_true', Bool.not_true, Bool.not_false, decide_true, decide_false, decide_eq_false_iff_not, D.int.injEq, D.str.injEq, D.bl.injEq, reduceCtorEq, Int.cast_ofNat_Int, Int.reduceNeg, Int.reducePow, Int.reduceLE, Int.reduceLT, Int.reduceToNat, and_self, Int.reduceEq, Int.reduceNe, Nat.reduceEqDiff, not_false_eq_true, not_true_eq_false, Int.toNat_natCast, List.range_succ, List.range_zero, a_turn, nxP_nx, nxP_cnt, nxP_ite, ↓reduceIte, h2]
  | some i => simp only [efD, a_kBin2, a_kBin, a_kUn, a_kIfE, a_kAndT, a_kOrT, a_kNotT, a_kCons2, a_kCons, a_kCallB, a_kTup, a_kLst, a_kDrop, a_kRet, a_kIfS, a_kSet, a_kSetF, a_kFor, a_kPar2, a_kPar, a_kAnd, a_kOr, a_kNot, a_kCh3, a_kCh2, a_kCh1, a_kSl3, a_kSl2, a_kSl1, a_koSo, a_kOfL, a_krC2, a_krC, a_krIo, a_krDef, a_kCall, a_kCallIo, a_kRaise, a_ktOf, a_kTgt, a_kRng1, a_kRng2, a_kEn, a_kZp2, a_kZp, a_kiLst, a_kLc2, a_kLc, a_kMut, a_kPut2, a_kPut, a_kDPut2, a_kDPut, a_kFldS, a_kMake, a_kLenO, a_runB, a_C, a_Bin, a_Un, a_If, a_tAnd, a_tOr, a_tNot, a_tYes, a_Nil, a_Cons, a_CallB, a_Tup, a_Lst, a_Next, a_Brk, a_Cnt, a_Bad, a_Seq, a_Drop, a_Ret, a_sIf, a_Set, a_SetF, a_Frz, a_For, a_Par, a_AndS, a_OrS, a_Not, a_ChainS, a_Sl, a_oNo, a_oSo, a_iSqS, a_iEnS, a_rNil, a_rCons, a_rDef, a_rIo, a_CallIo, a_Call, a_Raise, a_Var, a_VarB, a_tOf, a_Tgt, a_RetOwn, a_IoIx, a_iRng1, a_iRng2, a_iEn, a_iZp, a_iLst, a_Lc, a_Mut, a_Put, a_DPut, a_FldS, a_Tried, a_Make, a_LenO, a_ForD0, a_getC, a_setC, a_frzR, bind_ok', bind_exc, bind_bad, bind_ite, andS_ok, andS_exc, andS_bad, andS_ite, of_some, of_none, of_ite, sq_nx, sq_ret, sq_brk, sq_cnt, sq_exc, sq_bad, sq_ite, out_ret, out_nxF, out_exc, out_ite, back_ok, back_exc, back_ite, selB_bl, selB_ite, g_N, g_Tt, g_Tl, g_nil, g_cons, dLt_i, dLe_i, dGt_i, dGe_i, dAdd_i, dSub_i, dNeg_i, dIx_l, dIx_t, cLen_l, cLen_t, cList_l, cList_t, cTuple_l, cTuple_t, cMin_i, cMax_i, atI_zero, atI_one, atI_2, atI_3, atI_4, atI_5, atI_nt, atI_lst, dEq_pl, dNe_pl, dEq_bl, dNe_bl, dIsN_non, dIsN_int, dIsN_str, dIsN_lst, dIsN_tup, dIsN_bl, dNotN_non, dNotN_int, dNotN_str, dNotN_lst, dNotN_tup, dNotN_bl, sqS_l, sqS_t, enS_l, enS_t, noIo, isLst, wipeR, isi_list_n, isi_list_b, isi_list_i, isi_list_s, isi_list_l, isi_list_t, isi_tuple_n, isi_tuple_b, isi_tuple_i, isi_tuple_s, isi_tuple_l, isi_tuple_t, isi_bool_n, isi_bool_b, isi_bool_i, isi_bool_s, isi_bool_l, isi_bool_t, isi_int_n, isi_int_b, isi_int_i, isi_int_s, isi_int_l, isi_int_t, isi_str_n, isi_str_b, isi_str_i, isi_str_s, isi_str_l, isi_str_t, List.foldr_cons, List.foldr_nil, List.getElem?_cons_zero, List.getElem?_cons_succ, List.set_cons_zero, List.set_cons_succ, List.length_cons, List.length_nil, List.replicate_succ, List.replicate_zero, List.cons_append, List.nil_append, List.map_cons, List.map_nil, Nat.reduceAdd, Nat.reduceSub, Nat.reduceLeDiff, Nat.reduceLT, sizeLine_val, ite_true, ite_false, if_true, if_false, Bool.false_eq_true, Bool.true_eq_false, decide_eq_true_eq, Bool.not_eq_true', Bool.not_true, Bool.not_false, decide_true, decide_false, decide_eq_false_iff_not, D.int.injEq, D.str.injEq, D.bl.injEq, reduceCtorEq, Int.cast_ofNat_Int, Int.reduceNeg, Int.reducePow, Int.reduceLE, Int.reduceLT, Int.reduceToNat, and_self, Int.reduceEq, Int.reduceNe, Nat.reduceEqDiff, not_false_eq_true, not_true_eq_false, Int.toNat_natCast, List.range_succ, List.range_zero, a_turn, nxP_nx, nxP_cnt, nxP_ite, ↓reduceIte]
theorem net_fault_9x (c n : Int) (L : List Ed) (e : Exc) (E : D) (hs : szE c n L.length = some e) : m_net_fault [.fz (.int c), .fz (.int n), .fz (.lst (L.map tri)), .fz E] [] = .exc e [] := by
  have h1 : m_check_sizes [.fz (.int c), .fz (.int n), .fz (.lst (L.map tri))] [] = .exc e [] := by rw [check_ok, List.length_map, hs]; rfl
  simp only [m_net_fault, b_net_fault, a_kBin2, a_kBin, a_kUn, a_kIfE, a_kAndT, a_kOrT, a_kNotT, a_kCons2, a_kCons, a_kCallB, a_kTup, a_kLst, a_kDrop, a_kRet, a_kIfS, a_kSet, a_kSetF, a_kFor, a_kPar2, a_kPar, a_kAnd, a_kOr, a_kNot, a_kCh3, a_kCh2, a_kCh1, a_kSl3, a_kSl2, a_kSl1, a_koSo, a_kOfL, a_krC2, a_krC, a_krIo, a_krDef, a_kCall, a_kCallIo, a_kRaise, a_ktOf, a_kTgt, a_kRng1, a_kRng2, a_kEn, a_kZp2, a_kZp, a_kiLst, a_kLc2, a_kLc, a_kMut, a_kPut2, a_kPut, a_kDPut2, a_kDPut, a_kFldS, a_kMake, a_kLenO, a_runB, a_C, a_Bin, a_Un, a_If, a_tAnd, a_tOr, a_tNot, a_tYes, a_Nil, a_Cons, a_CallB, a_Tup, a_Lst, a_Next, a_Brk, a_Cnt, a_Bad, a_Seq, a_Drop, a_Ret, a_sIf, a_Set, a_SetF, a_Frz, a_For, a_Par, a_AndS, a_OrS, a_Not, a_ChainS, a_Sl, a_oNo, a_oSo, a_iSqS, a_iEnS, a_rNil, a_rCons, a_rDef, a_rIo, a_CallIo, a_Call, a_Raise, a_Var, a_VarB, a_tOf, a_Tgt, a_RetOwn, a_IoIx, a_iRng1, a_iRng2, a_iEn, a_iZp, a_iLst, a_Lc, a_Mut, a_Put, a_DPut, a_FldS, a_Tried, a_Make, a_LenO, a_ForD0, a_getC, a_setC, a_frzR, bind_ok', bind_exc, bind_bad, bind_ite, andS_ok, andS_exc, andS_bad, andS_ite, of_some, of_none, of_ite, sq_nx, sq_ret, sq_brk, sq_cnt, sq_exc, sq_bad, sq_ite, out_ret, out_nxF, out_exc, out_ite, back_ok, back_exc, back_ite, selB_bl, selB_ite, g_N, g_Tt, g_Tl, g_nil, g_cons, dLt_i, dLe_i, dGt_i, dGe_i, dAdd_i, dSub_i, dNeg_i, dIx_l, dIx_t, cLen_l, cLen_t, cList_l, cList_t, cTuple_l, cTuple_t, cMin_i, cMax_i, atI_zero, atI_one, atI_2, atI_3, atI_4, atI_5, atI_nt, atI_lst, dEq_pl, dNe_pl, dEq_bl, dNe_bl, dIsN_non, dIsN_int, dIsN_str, dIsN_lst, dIsN_tup, dIsN_bl, dNotN_non, dNotN_int, dNotN_str, dNotN_lst, dNotN_tup, dNotN_bl, sqS_l, sqS_t, enS_l, enS_t, noIo, isLst, wipeR, isi_list_n, isi_list_b, isi_list_i, isi_list_s, isi_list_l, isi_list_t, isi_tuple_n, isi_tuple_b, isi_tuple_i, isi_tuple_s, isi_tuple_l, isi_tuple_t, isi_bool_n, isi_bool_b, isi_bool_i, isi_bool_s, isi_bool_l, isi_bool_t, isi_int_n, isi_int_b, isi_int_i, isi_int_s, isi_int_l, isi_int_t, isi_str_n, isi_str_b, isi_str_i, isi_str_s, isi_str_l, isi_str_t, List.foldr_cons, List.foldr_nil, List.getElem?_cons_zero, List.getElem?_cons_succ, List.set_cons_zero, List.set_cons_succ, List.length_cons, List.length_nil, List.replicate_succ, List.replicate_zero, List.cons_append, List.nil_append, List.map_cons, List.map_nil, Nat.reduceAdd, Nat.reduceSub, Nat.reduceLeDiff, Nat.reduceLT, sizeLine_val, ite_true, ite_false, if_true, if_false, Bool.false_eq_true, Bool.true_eq_false, decide_eq_true_eq, Bool.not_eq_true', Bool.not_true, Bool.not_false, decide_true, decide_false, decide_eq_false_iff_not, D.int.injEq, D.str.injEq, D.bl.injEq, reduceCtorEq, Int.cast_ofNat_Int, Int.reduceNeg, Int.reducePow, Int.reduceLE, Int.reduceLT, Int.reduceToNat, and_self, Int.reduceEq, Int.reduceNe, Nat.reduceEqDiff, not_false_eq_true, not_true_eq_false, Int.toNat_natCast, List.range_succ, List.range_zero, a_turn, nxP_nx, nxP_cnt, nxP_ite, ↓reduceIte, h1]
/-- without mixed pairs, without entries -/
theorem net_fault_0 (c n : Int) (L : List Ed) (hl : L.length ≤ 1000) (hs : szE c n L.length = none) (hm : ef c n L = none → mix L = []) : m_net_fault [.fz (.int c), .fz (.int n), .fz (.lst (L.map tri)), .fz (.ctup [])] [] = .ok (faultD c n L .non) [] := by
  have h1 : m_check_sizes [.fz (.int c), .fz (.int n), .fz (.lst (L.map tri))] [] = .ok .non [] := by rw [check_ok, List.length_map, hs]; rfl
  have h2 : m_swap_fault [.fz (.lst (L.map tri)), .fz (.ctup [])] [] = .ok .non [] := by
    simp only [m_swap_fault, b_swap_fault, a_kBin2, a_kBin, a_kUn, a_kIfE, a_kAndT, a_kOrT, a_kNotT, a_kCons2, a_kCons, a_kCallB, a_kTup, a_kLst, a_kDrop, a_kRet, a_kIfS, a_kSet, a_kSetF, a_kFor, a_kPar2, a_kPar, a_kAnd, a_kOr, a_kNot, a_kCh3, a_kCh2, a_kCh1, a_kSl3, a_kSl2, a_kSl1, a_koSo, a_kOfL, a_krC2, a_krC, a_krIo, a_krDef, a_kCall, a_kCallIo, a_kRaise, a_ktOf, a_kTgt, a_kRng1, a_kRng2, a_kEn, a_kZp2, a_kZp, a_kiLst, a_kLc2, a_kLc, a_kMut, a_kPut2, a_kPut, a_kDPut2, a_kDPut, a_kFldS, a_kMake, a_kLenO, a_runB, a_C, a_Bin, a_Un, a_If, a_tAnd, a_tOr, a_tNot, a_tYes, a_Nil, a_Cons, a_CallB, a_Tup, a_Lst, a_Next, a_Brk, a_Cnt, a_Bad, a_Seq, a_Drop, a_Ret, a_sIf, a_Set, a_SetF, a_Frz, a_For, a_Par, a_AndS, a_OrS, a_Not, a_ChainS, a_Sl, a_oNo, a_oSo, a_iSqS, a_iEnS, a_rNil, a_rCons, a_rDef, a_rIo, a_CallIo, a_Call, a_Raise, a_Var, a_VarB, a_tOf, a_Tgt, a_RetOwn, a_IoIx, a_iRng1, a_iRng2, a_iEn, a_iZp, a_iLst, a_Lc, a_Mut, a_Put, a_DPut, a_FldS, a_Tried, a_Make, a_LenO, a_ForD0, a_getC, a_setC, a_frzR, bind_ok', bind_exc, bind_bad, bind_ite, andS_ok, andS_exc, andS_bad, andS_ite, of_some, of_none, of_ite, sq_nx, sq_ret, sq_brk, sq_cnt, sq_exc, sq_bad, sq_ite, out_ret, out_nxF, out_exc, out_ite, back_ok, back_exc, back_ite, selB_bl, selB_ite, g_N, g_Tt, g_Tl, g_nil, g_cons, dLt_i, dLe_i, dGt_i, dGe_i, dAdd_i, dSub_i, dNeg_i, dIx_l, dIx_t, cLen_l, cLen_t, cList_l, cList_t, cTuple_l, cTuple_t, cMin_i, cMax_i, atI_zero, atI_one, atI_2, atI_3, atI_4, atI_5, atI_nt, atI_lst, dEq_pl, dNe_pl, dEq_bl, dNe_bl, dIsN_non, dIsN_int, dIsN_str, dIsN_lst, dIsN_tup, dIsN_bl, dNotN_non, dNotN_int, dNotN_str, dNotN_lst, dNotN_tup, dNotN_bl, sqS_l, sqS_t, enS_l, enS_t, noIo, isLst, wipeR, isi_list_n, isi_list_b, isi_list_i, isi_list_s, isi_list_l, isi_list_t, isi_tuple_n, isi_tuple_b, isi_tuple_i, isi_tuple_s, isi_tuple_l, isi_tuple_t, isi_bool_n, isi_bool_b, isi_bool_i, isi_bool_s, isi_bool_l, isi_bool_t, isi_int_n, isi_int_b, isi_int_i, isi_int_s, isi_int_l, isi_int_t, isi_str_n, isi_str_b, isi_str_i, isi_str_s, isi_str_l, isi_str_t, List.foldr_cons, List.foldr_nil, List.getElem?_cons_zero, List.getElem?_cons_succ, List.set_cons_zero, List.set_cons_succ, List.length_cons, List.length_nil, List.replicate_succ, List.replicate_zero, List.cons_append, List.nil_append, List.map_cons, List.map_nil, Nat.reduceAdd, Nat.reduceSub, Nat.reduceLeDiff, Nat.reduceLT, sizeLine_val, ite_true, ite_false, if_true, if_false, Bool.false_eq_true, Bool.true_eq_false, decide_eq_true_eq, Bool.not_eq_true', Bool.not_true, Bool.not_false, decide_true, decide_false, decide_eq_false_iff_not, D.int.injEq, D.str.injEq, D.bl.injEq, reduceCtorEq, Int.cast_ofNat_Int, Int.reduceNeg, Int.reducePow, Int.reduceLE, Int.reduceLT, Int.reduceToNat, and_self, Int.reduceEq, Int.reduceNe, Nat.reduceEqDiff, not_false_eq_true, not_true_eq_false, Int.toNat_natCast, List.range_succ, List.range_zero, a_turn, nxP_nx, nxP_cnt, nxP_ite, ↓reduceIte, enS, for_nil]
  have h3 : m_swap_table [.fz (.ctup [])] [] = .ok (.dct true [] []) [] := by
    simp only [m_swap_table, b_swap_table, a_kBin2, a_kBin, a_kUn, a_kIfE, a_kAndT, a_kOrT, a_kNotT, a_kCons2, a_kCons, a_kCallB, a_kTup, a_kLst, a_kDrop, a_kRet, a_kIfS, a_kSet, a_kSetF, a_kFor, a_kPar2, a_kPar, a_kAnd, a_kOr, a_kNot, a_kCh3, a_kCh2, a_kCh1, a_kSl3, a_kSl2, a_kSl1, a_koSo, a_kOfL, a_krC2, a_krC, a_krIo, a_krDef, a_kCall, a_kCallIo, a_kRaise, a_ktOf, a_kTgt, a_kRng1, a_kRng2, a_kEn, a_kZp2, a_kZp, a_kiLst, a_kLc2, a_kLc, a_kMut, a_kPut2, a_kPut, a_kDPut2, a_kDPut, a_kFldS, a_kMake, a_kLenO, a_runB, a_C, a_Bin, a_Un, a_If, a_tAnd, a_tOr, a_tNot, a_tYes, a_Nil, a_Cons, a_CallB, a_Tup, a_Lst, a_Next, a_Brk, a_Cnt, a_Bad, a_Seq, a_Drop, a_Ret, a_sIf, a_Set, a_SetF, a_Frz, a_For, a_Par, a_AndS, a_OrS, a_Not, a_ChainS, a_Sl, a_oNo, a_oSo, a_iSqS, a_iEnS, a_rNil, a_rCons, a_rDef, a_rIo, a_CallIo, a_Call, a_Raise, a_Var, a_VarB, a_tOf, a_Tgt, a_RetOwn, a_IoIx, a_iRng1, a_iRng2, a_iEn, a_iZp, a_iLst, a_Lc, a_Mut, a_Put, a_DPut, a_FldS, a_Tried, a_Make, a_LenO, a_ForD0, a_getC, a_setC, a_frzR, bind_ok', bind_exc, bind_bad, bind_ite, andS_ok, andS_exc, andS_bad, andS_ite, of_some, of_none, of_ite, sq_nx, sq_ret, sq_brk, sq_cnt, sq_exc, sq_bad, sq_ite, out_ret, out_nxF, out_exc, out_ite, back_ok, back_exc, back_ite, selB_bl, selB_ite, g_N, g_Tt, g_Tl, g_nil, g_cons, dLt_i, dLe_i, dGt_i, dGe_i, dAdd_i, dSub_i, dNeg_i, dIx_l, dIx_t, cLen_l, cLen_t, cList_l, cList_t, cTuple_l, cTuple_t, cMin_i, cMax_i, atI_zero, atI_one, atI_2, atI_3, atI_4, atI_5, atI_nt, atI_lst, dEq_pl, dNe_pl, dEq_bl, dNe_bl, dIsN_non, dIsN_int, dIsN_str, dIsN_lst, dIsN_tup, dIsN_bl, dNotN_non, dNotN_int, dNotN_str, dNotN_lst, dNotN_tup, dNotN_bl, sqS_l, sqS_t, enS_l, enS_t, noIo, isLst, wipeR, isi_list_n, isi_list_b, isi_list_i, isi_list_s, isi_list_l, isi_list_t, isi_tuple_n, isi_tuple_b, isi_tuple_i, isi_tuple_s, isi_tuple_l, isi_tuple_t, isi_bool_n, isi_bool_b, isi_bool_i, isi_bool_s, isi_bool_l, isi_bool_t, isi_int_n, isi_int_b, isi_int_i, isi_int_s, isi_int_l, isi_int_t, isi_str_n, isi_str_b, isi_str_i, isi_str_s, isi_str_l, isi_str_t, List.foldr_cons, List.foldr_nil, List.getElem?_cons_zero, List.getElem?_cons_succ, List.set_cons_zero, List.set_cons_succ, List.length_cons, List.length_nil, List.replicate_succ, List.replicate_zero, List.cons_append, List.nil_append, List.map_cons, List.map_nil, Nat.reduceAdd, Nat.reduceSub, Nat.reduceLeDiff, Nat.reduceLT, sizeLine_val, ite_true, ite_false, if_true, if_false, Bool.false_eq_true, Bool.true_eq_false, decide_eq_true_eq, Bool.not_eq_true', Bool.not_true, Bool.not_false, decide_true, decide_false, decide_eq_false_iff_not, D.int.injEq, D.str.injEq, D.bl.injEq, reduceCtorEq, Int.cast_ofNat_Int, Int.reduceNeg, Int.reducePow, Int.reduceLE, Int.reduceLT, Int.reduceToNat, and_self, Int.reduceEq, Int.reduceNe, Nat.reduceEqDiff, not_false_eq_true, not_true_eq_false, Int.toNat_natCast, List.range_succ, List.range_zero, a_turn, nxP_nx, nxP_cnt, nxP_ite, ↓reduceIte, sqS, for_nil]
  simp only [m_net_fault, b_net_fault, a_kBin2, a_kBin, a_kUn, a_kIfE, a_kAndT, a_kOrT, a_kNotT, a_kCons2, a_kCons, a_kCallB, a_kTup, a_kLst, a_kDrop, a_kRet, a_kIfS, a_kSet, a_kSetF, a_kFor, a_kPar2, a_kPar, a_kAnd, a_kOr, a_kNot, a_kCh3, a_kCh2, a_kCh1, a_kSl3, a_kSl2, a_kSl1, a_koSo, a_kOfL, a_krC2, a_krC, a_krIo, a_krDef, a_kCall, a_kCallIo, a_kRaise, a_ktOf, a_kTgt, a_kRng1, a_kRng2, a_kEn, a_kZp2, a_kZp, a_kiLst, a_kLc2, a_kLc, a_kMut, a_kPut2, a_kPut, a_kDPut2, a_kDPut, a_kFldS, a_kMake, a_kLenO, a_runB, a_C, a_Bin, a_Un, a_If, a_tAnd, a_tOr, a_tNot, a_tYes, a_Nil, a_Cons, a_CallB, a_Tup, a_Lst, a_Next, a_Brk, a_Cnt, a_Bad, a_Seq, a_Drop, a_Ret, a_sIf, a_Set, a_SetF, a_Frz, a_For, a_Par, a_AndS, a_OrS, a_Not, a_ChainS, a_Sl, a_oNo, a_oSo, a_iSqS, a_iEnS, a_rNil, a_rCons, a_rDef, a_rIo, a_CallIo, a_Call, a_Raise, a_Var, a_VarB, a_tOf, a_Tgt, a_RetOwn, a_IoIx, a_iRng1, a_iRng2, a_iEn, a_iZp, a_iLst, a_Lc, a_Mut, a_Put, a_DPut, a_FldS, a_Tried, a_Make, a_LenO, a_ForD0, a_getC, a_setC, a_frzR, bind_ok', bind_exc, bind_bad, bind_ite, andS_ok, andS_exc, andS_bad, andS_ite, of_some, of_none, of_ite, sq_nx, sq_ret, sq_brk, sq_cnt, sq_exc, sq_bad, sq_ite, out_ret, out_nxF, out_exc, out_ite, back_ok, back_exc, back_ite, selB_bl, selB_ite, g_N, g_Tt, g_Tl, g_nil, g_cons, dLt_i, dLe_i, dGt_i, dGe_i, dAdd_i, dSub_i, dNeg_i, dIx_l, dIx_t, cLen_l, cLen_t, cList_l, cList_t, cTuple_l, cTuple_t, cMin_i, cMax_i, atI_zero, atI_one, atI_2, atI_3, atI_4, atI_5, atI_nt, atI_lst, dEq_pl, dNe_pl, dEq_bl, dNe_bl, dIsN_non, dIsN_int, dIsN_str, dIsN_lst, dIsN_tup, dIsN_bl, dNotN_non, dNotN_int, dNotN_str, dNotN_lst, dNotN_tup, dNotN_bl, sqS_l, sqS_t, enS_l, enS_t, noIo, isLst, wipeR, isi_list_n, isi_list_b, isi_list_i, isi_list_s, isi_list_l, isi_list_t, isi_tuple_n, isi_tuple_b, isi_tuple_i, isi_tuple_s, isi_tuple_l, isi_tuple_t, isi_bool_n, isi_bool_b, isi_bool_i, isi_bool_s, isi_bool_l, isi_bool_t, isi_int_n, isi_int_b, isi_int_i, isi_int_s, isi_int_l, isi_int_t, isi_str_n, isi_str_b, isi_str_i, isi_str_s, isi_str_l, isi_str_t, List.foldr_cons, List.foldr_nil, List.getElem?_cons_zero, List.getElem?_cons_succ, List.set_cons_zero, List.set_cons_succ, List.length_cons, List.length_nil, List.replicate_succ, List.replicate_zero, List.cons_append, List.nil_append, List.map_cons, List.map_nil, Nat.reduceAdd, Nat.reduceSub, Nat.reduceLeDiff, Nat.reduceLT, sizeLine_val, ite_true, ite_false, if_true, if_false, Bool.false_eq_true, Bool.true_eq_false, decide_eq_true_eq, Bool.not_eq_true', Bool.not_true, Bool.not_false, decide_true, decide_false, decide_eq_false_iff_not, D.int.injEq, D.str.injEq, D.bl.injEq, reduceCtorEq, Int.cast_ofNat_Int, Int.reduceNeg, Int.reducePow, Int.reduceLE, Int.reduceLT, Int.reduceToNat, and_self, Int.reduceEq, Int.reduceNe, Nat.reduceEqDiff, not_false_eq_true, not_true_eq_false, Int.toNat_natCast, List.range_succ, List.range_zero, a_turn, nxP_nx, nxP_cnt, nxP_ite, ↓reduceIte, h1, edge_fault_ok, faultD]
  cases he : ef c n L with
  | none =>
    have h4 : m_cube_fault [.fz (.lst (L.map tri)), .fz (.dct true [] [])] [] = .ok .non [] := by
      simp only [m_cube_fault, b_cube_fault, a_kBin2, a_kBin, a_kUn, a_kIfE, a_kAndT, a_kOrT, a_kNotT, a_kCons2, a_kCons, a_kCallB, a_kTup, a_kLst, a_kDrop, a_kRet, a_kIfS, a_kSet, a_kSetF, a_kFor, a_kPar2, a_kPar, a_kAnd, a_kOr, a_kNot, a_kCh3, a_kCh2, a_kCh1, a_kSl3, a_kSl2, a_kSl1, a_koSo, a_kOfL, a_krC2, a_krC, a_krIo, a_krDef, a_kCall, a_kCallIo, a_kRaise, a_ktOf, a_kTgt, a_kRng1, a_kRng2, a_kEn, a_kZp2, a_kZp, a_kiLst, a_kLc2, a_kLc, a_kMut, a_kPut2, a_kPut, a_kDPut2, a_kDPut, a_kFldS, a_kMake, a_kLenO, a_runB, a_C, a_Bin, a_Un, a_If, a_tAnd, a_tOr, a_tNot, a_tYes, a_Nil, a_Cons, a_CallB, a_Tup, a_Lst, a_Next, a_Brk, a_Cnt, a_Bad, a_Seq, a_Drop, a_Ret, a_sIf, a_Set, a_SetF, a_Frz, a_For, a_Par, a_AndS, a_OrS, a_Not, a_ChainS, a_Sl, a_oNo, a_oSo, a_iSqS, a_iEnS, a_rNil, a_rCons, a_rDef, a_rIo, a_CallIo, a_Call, a_Raise, a_Var, a_VarB, a_tOf, a_Tgt, a_RetOwn, a_IoIx, a_iRng1, a_iRng2, a_iEn, a_iZp, a_iLst, a_Lc, a_Mut, a_Put, a_DPut, a_FldS, a_Tried, a_Make, a_LenO, a_ForD0, a_getC, a_setC, a_frzR, bind_ok', bind_exc, bind_bad, bind_ite, andS_ok, andS_exc, andS_bad, andS_ite, of_some, of_none, of_ite, sq_nx, sq_ret, sq_brk, sq_cnt, sq_exc, sq_bad, sq_ite, out_ret, out_nxF, out_exc, out_ite, back_ok, back_exc, back_ite, selB_bl, selB_ite, g_N, g_Tt, g_Tl, g_nil, g_cons, dLt_i, dLe_i, dGt_i, dGe_i, dAdd_i, dSub_i, dNeg_i, dIx_l, dIx_t, cLen_l, cLen_t, cList_l, cList_t, cTuple_l, cTuple_t, cMin_i, cMax_i, atI_zero, atI_one, atI_2, atI_3, atI_4, atI_5, atI_nt, atI_lst, dEq_pl, dNe_pl, dEq_bl, dNe_bl, dIsN_non, dIsN_int, dIsN_str, dIsN_lst, dIsN_tup, dIsN_bl, dNotN_non, dNotN_int, dNotN_str, dNotN_lst, dNotN_tup, dNotN_bl, sqS_l, sqS_t, enS_l, enS_t, noIo, isLst, wipeR, isi_list_n, isi_list_b, isi_list_i, isi_list_s, isi_list_l, isi_list_t, isi_tuple_n, isi_tuple_b, isi_tuple_i, isi_tuple_s, isi_tuple_l, isi_tuple_t, isi_bool_n, isi_bool_b, isi_bool_i, isi_bool_s, isi_bool_l, isi_bool_t, isi_int_n, isi_int_b, isi_int_i, isi_int_s, isi_int_l, isi_int_t, isi_str_n, isi_str_b, isi_str_i, isi_str_s, isi_str_l, isi_str_t, List.foldr_cons, List.foldr_nil, List.getElem?_cons_zero, List.getElem?_cons_succ, List.set_cons_zero, List.set_cons_succ, List.length_cons, List.length_nil, List.replicate_succ, List.replicate_zero, List.cons_append, List.nil_append, List.map_cons, List.map_nil, Nat.reduceAdd, Nat.reduceSub, Nat.reduceLeDiff, Nat.reduceLT, sizeLine_val, ite_true, ite_false, if_true, if_false, Bool.false_eq_true, Bool.true_eq_false, decide_eq_true_eq, Bool.not_eq_true', Bool.not_true, Bool.not_false, decide_true, decide_false, decide_eq_false_iff_not, D.int.injEq, D.str.injEq, D.bl.injEq, reduceCtorEq, Int.cast_ofNat_Int, Int.reduceNeg, Int.reducePow, Int.reduceLE, Int.reduceLT, Int.reduceToNat, and_self, Int.reduceEq, Int.reduceNe, Nat.reduceEqDiff, not_false_eq_true, not_true_eq_false, Int.toNat_natCast, List.range_succ, List.range_zero, a_turn, nxP_nx, nxP_cnt, nxP_ite, ↓reduceIte, mixed_pairs_ok L hl, hm he, for_nil]
    simp only [efD, a_kBin2, a_kBin, a_kUn, a_kIfE, a_kAndT, a_kOrT, a_kNotT, a_kCons2, a_kCons, a_kCallB, a_kTup, a_kLst, a_kDrop, a_kRet, a_kIfS, a_kSet, a_kSetF, a_kFor, a_kPar2, a_kPar, a_kAnd, a_kOr, a_kNot, a_kCh3, a_kCh2, a_kCh1, a_kSl3, a_kSl2, a_kSl1, a_koSo, a_kOfL, a_krC2, a_krC, a_krIo, a_krDef, a_kCall, a_kCallIo, a_kRaise, a_ktOf, a_kTgt, a_kRng1, a_kRng2, a_kEn, a_kZp2, a_kZp, a_kiLst, a_kLc2, a_kLc, a_kMut, a_kPut2, a_kPut, a_kDPut2, a_kDPut, a_kFldS, a_kMake, a_kLenO, a_runB, a_C, a_Bin, a_Un, a_If, a_tAnd, a_tOr, a_tNot, a_tYes, a_Nil, a_Cons, a_CallB, a_Tup, a_Lst, a_Next, a_Brk, a_Cnt, a_Bad, a_Seq, a_Drop, a_Ret, a_sIf, a_Set, a_SetF, a_Frz, a_For, a_Par, a_AndS, a_OrS, a_Not, a_ChainS, a_Sl, a_oNo, a_oSo, a_iSqS, a_iEnS, a_rNil, a_rCons, a_rDef, a_rIo, a_CallIo, a_Call, a_Raise, a_Var, a_VarB, a_tOf, a_Tgt, a_RetOwn, a_IoIx, a_iRng1, a_iRng2, a_iEn, a_iZp, a_iLst, a_Lc, a_Mut, a_Put, a_DPut, a_FldS, a_Tried, a_Make, a_LenO, a_ForD0, a_getC, a_setC, a_frzR, bind_ok', bind_exc, bind_bad, bind_ite, andS_ok, andS_exc, andS_bad, andS_ite, of_some, of_none, of_ite, sq_nx, sq_ret, sq_brk, sq_cnt, sq_exc, sq_bad, sq_ite, out_ret, out_nxF, out_exc, out_ite, back_ok, back_exc, back_ite, selB_bl, selB_ite, g_N, g_Tt, g_Tl, g_nil, g_cons, dLt_i, dLe_i, dGt_i, dGe_i, dAdd_i, dSub_i, dNeg_i, dIx_l, dIx_t, cLen_l, cLen_t, cList_l, cList_t, cTuple_l, cTuple_t, cMin_i, cMax_i, atI_zero, atI_one, atI_2, atI_3, atI_4, atI_5, atI_nt, atI_lst, dEq_pl, dNe_pl, dEq_bl, dNe_bl, dIsN_non, dIsN_int, dIsN_str, dIsN_lst, dIsN_tup, dIsN_bl, dNotN_non, dNotN_int, dNotN_str, dNotN_lst, dNotN_tup, dNotN_bl, sqS_l, sqS_t, enS_l, enS_t, noIo, isLst, wipeR, isi_list_n, isi_list_b, isi_list_i, isi_list_s, isi_list_l, isi_list_t, isi_tuple_n, isi_tuple_b, isi_tuple_i, isi_tuple_s, isi_tuple_l, isi_tuple_t, isi_bool_n, isi_bool_b, isi_bool_i, isi_bool_s, isi_bool_l, isi_bool_t, isi_int_n, isi_int_b, isi_int_i, isi_int_s, isi_int_l, isi_int_t, isi_str_n, isi_str_b, isi_str_i, isi_str_s, isi_str_l, isi_str_t, List.foldr_cons, List.foldr_nil, List.getElem?_cons_zero, List.getElem?_cons_succ, List.set_cons_zero, List.set_cons_succ, List.length_cons, List.length_nil, List.replicate_succ, List.replicate_zero, List.cons_append, List.nil_append, List.map_cons, List.map_nil, Nat.reduceAdd, Nat.reduceSub, Nat.reduceLeDiff, Nat.reduceLT, sizeLine_val, ite_true, ite_false, if_true, if_false, Bool.false_eq_true, Bool.true_eq_false, decide_eq_true_eq, Bool.not_eq_true', Bool.not_true, Bool.not_false, decide_true, decide_false, decide_eq_false_iff_not, D.int.injEq, D.str.injEq, D.bl.injEq, reduceCtorEq, Int.cast_ofNat_Int, Int.reduceNeg, Int.reducePow, Int.reduceLE, Int.reduceLT, Int.reduceToNat, and_self, Int.reduceEq, Int.reduceNe, Nat.reduceEqDiff, not_false_eq_true, not_true_eq_false, Int.toNat_natCast, List.range_succ, List.range_zero, a_turn, nxP_nx, nxP_cnt, nxP_ite, ↓reduceIte, h2, h3, mixed_pairs_ok L hl, hm he, for_nil, h4]
  | some i => simp only [efD, a_kBin2, a_kBin, a_kUn, a_kIfE, a_kAndT, a_kOrT, a_kNotT, a_kCons2, a_kCons, a_kCallB, a_kTup, a_kLst, a_kDrop, a_kRet, a_kIfS, a_kSet, a_kSetF, a_kFor, a_kPar2, a_kPar, a_kAnd, a_kOr, a_kNot, a_kCh3, a_kCh2, a_kCh1, a_kSl3, a_kSl2, a_kSl1, a_koSo, a_kOfL, a_krC2, a_krC, a_krIo, a_krDef, a_kCall, a_kCallIo, a_kRaise, a_ktOf, a_kTgt, a_kRng1, a_kRng2, a_kEn, a_kZp2, a_kZp, a_kiLst, a_kLc2, a_kLc, a_kMut, a_kPut2, a_kPut, a_kDPut2, a_kDPut, a_kFldS, a_kMake, a_kLenO, a_runB, a_C, a_Bin, a_Un, a_If, a_tAnd, a_tOr, a_tNot, a_tYes, a_Nil, a_Cons, a_CallB, a_Tup, a_Lst, a_Next, a_Brk, a_Cnt, a_Bad, a_Seq, a_Drop, a_Ret, a_sIf, a_Set, a_SetF, a_Frz, a_For, a_Par, a_AndS, a_OrS, a_Not, a_ChainS, a_Sl, a_oNo, a_oSo, a_iSqS, a_iEnS, a_rNil, a_rCons, a_rDef, a_rIo, a_CallIo, a_Call, a_Raise, a_Var, a_VarB, a_tOf, a_Tgt, a_RetOwn, a_IoIx, a_iRng1, a_iRng2, a_iEn, a_iZp, a_iLst, a_Lc, a_Mut, a_Put, a_DPut, a_FldS, a_Tried, a_Make, a_LenO, a_ForD0, a_getC, a_setC, a_frzR, bind_ok', bind_exc, bind_bad, bind_ite, andS_ok, andS_exc, andS_bad, andS_ite, of_some, of_none, of_ite, sq_nx, sq_ret, sq_brk, sq_cnt, sq_exc, sq_bad, sq_ite, out_ret, out_nxF, out_exc, out_ite, back_ok, back_exc, back_ite, selB_bl, selB_ite, g_N, g_Tt, g_Tl, g_nil, g_cons, dLt_i, dLe_i, dGt_i, dGe_i, dAdd_i, dSub_i, dNeg_i, dIx_l, dIx_t, cLen_l, cLen_t, cList_l, cList_t, cTuple_l, cTuple_t, cMin_i, cMax_i, atI_zero, atI_one, atI_2, atI_3, atI_4, atI_5, atI_nt, atI_lst, dEq_pl, dNe_pl, dEq_bl, dNe_bl, dIsN_non, dIsN_int, dIsN_str, dIsN_lst, dIsN_tup, dIsN_bl, dNotN_non, dNotN_int, dNotN_str, dNotN_lst, dNotN_tup, dNotN_bl, sqS_l, sqS_t, enS_l, enS_t, noIo, isLst, wipeR, isi_list_n, isi_list_b, isi_list_i, isi_list_s, isi_list_l, isi_list_t, isi_tuple_n, isi_tuple_b, isi_tuple_i, isi_tuple_s, isi_tuple_l, isi_tuple_t, isi_bool_n, isi_bool_b, isi_bool_i, isi_bool_s, isi_bool_l, isi_bool_t, isi_int_n, isi_int_b, isi_int_i, isi_int_s, isi_int_l, isi_int_t, isi_str_n, isi_str_b, isi_str_i, isi_str_s, isi_str_l, isi_str_t, List.foldr_cons, List.foldr_nil, List.getElem?_cons_zero, List.getElem?_cons_succ, List.set_cons_zero, List.set_cons_succ, List.length_cons, List.length_nil, List.replicate_succ, List.replicate_zero, List.cons_append, List.nil_append, List.map_cons, List.map_nil, Nat.reduceAdd, Nat.reduceSub, Nat.reduceLeDiff, Nat.reduceLT, sizeLine_val, ite_true, ite_false, if_true, if_false, Bool.false_eq_true, Bool.true_eq_false, decide_eq_true_eq, Bool.not_eq_true', Bool.not_true, Bool.not_false, decide_true, decide_false, decide_eq_false_iff_not, D.int.injEq, D.str.injEq, D.bl.injEq, reduceCtorEq, Int.cast_ofNat_Int, Int.reduceNeg, Int.reducePow, Int.reduceLE, Int.reduceLT, Int.reduceToNat, and_self, Int.reduceEq, Int.reduceNe, Nat.reduceEqDiff, not_false_eq_true, not_true_eq_false, Int.toNat_natCast, List.range_succ, List.range_zero, a_turn, nxP_nx, nxP_cnt, nxP_ite, ↓reduceIte]
theorem netput_0 {x0 : D} : dPutF "Net" "hues" (.ins "Net" [] []) x0 = some (.ins "Net" ["hues"] [x0]) := (rfl)
theorem netput_1 {x0 x1 : D} : dPutF "Net" "knots" (.ins "Net" ["hues"] [x0]) x1 = some (.ins "Net" ["hues", "knots"] [x0, x1]) := (rfl)
theorem netput_2 {x0 x1 x2 : D} : dPutF "Net" "lines" (.ins "Net" ["hues", "knots"] [x0, x1]) x2 = some (.ins "Net" ["hues", "knots", "lines"] [x0, x1, x2]) := (rfl)
theorem netput_3 {x0 x1 x2 x3 : D} : dPutF "Net" "entries" (.ins "Net" ["hues", "knots", "lines"] [x0, x1, x2]) x3 = some (.ins "Net" ["hues", "knots", "lines", "entries"] [x0, x1, x2, x3]) := (rfl)
theorem netput_4 {x0 x1 x2 x3 x4 : D} : dPutF "Net" "table" (.ins "Net" ["hues", "knots", "lines", "entries"] [x0, x1, x2, x3]) x4 = some (.ins "Net" ["hues", "knots", "lines", "entries", "table"] [x0, x1, x2, x3, x4]) := (rfl)
def netD (c n : Int) (L : List Ed) : D := .ins "Net" ["hues", "knots", "lines", "entries", "table"] [.int c, .int n, .lst (L.map tri), .lst [], .dct true [] []]
theorem net_init_x (c n : Int) (L : List Ed) (e : Exc) (hs : szE c n L.length = some e) : m_Net_init [.io 0, .fz (.int c), .fz (.int n), .fz (.lst (L.map tri)), .fz (.ctup [])] [.ins "Net" [] []] = .exc e [.ins "Net" [] []] := by
  simp only [m_Net_init, b_Net_init, a_kBin2, a_kBin, a_kUn, a_kIfE, a_kAndT, a_kOrT, a_kNotT, a_kCons2, a_kCons, a_kCallB, a_kTup, a_kLst, a_kDrop, a_kRet, a_kIfS, a_kSet, a_kSetF, a_kFor, a_kPar2, a_kPar, a_kAnd, a_kOr, a_kNot, a_kCh3, a_kCh2, a_kCh1, a_kSl3, a_kSl2, a_kSl1, a_koSo, a_kOfL, a_krC2, a_krC, a_krIo, a_krDef, a_kCall, a_kCallIo, a_kRaise, a_ktOf, a_kTgt, a_kRng1, a_kRng2, a_kEn, a_kZp2, a_kZp, a_kiLst, a_kLc2, a_kLc, a_kMut, a_kPut2, a_kPut, a_kDPut2, a_kDPut, a_kFldS, a_kMake, a_kLenO, a_runB, a_C, a_Bin, a_Un, a_If, a_tAnd, a_tOr, a_tNot, a_tYes, a_Nil, a_Cons, a_CallB, a_Tup, a_Lst, a_Next, a_Brk, a_Cnt, a_Bad, a_Seq, a_Drop, a_Ret, a_sIf, a_Set, a_SetF, a_Frz, a_For, a_Par, a_AndS, a_OrS, a_Not, a_ChainS, a_Sl, a_oNo, a_oSo, a_iSqS, a_iEnS, a_rNil, a_rCons, a_rDef, a_rIo, a_CallIo, a_Call, a_Raise, a_Var, a_VarB, a_tOf, a_Tgt, a_RetOwn, a_IoIx, a_iRng1, a_iRng2, a_iEn, a_iZp, a_iLst, a_Lc, a_Mut, a_Put, a_DPut, a_FldS, a_Tried, a_Make, a_LenO, a_ForD0, a_getC, a_setC, a_frzR, bind_ok', bind_exc, bind_bad, bind_ite, andS_ok, andS_exc, andS_bad, andS_ite, of_some, of_none, of_ite, sq_nx, sq_ret, sq_brk, sq_cnt, sq_exc, sq_bad, sq_ite, out_ret, out_nxF, out_exc, out_ite, back_ok, back_exc, back_ite, selB_bl, selB_ite, g_N, g_Tt, g_Tl, g_nil, g_cons, dLt_i, dLe_i, dGt_i, dGe_i, dAdd_i, dSub_i, dNeg_i, dIx_l, dIx_t, cLen_l, cLen_t, cList_l, cList_t, cTuple_l, cTuple_t, cMin_i, cMax_i, atI_zero, atI_one, atI_2, atI_3, atI_4, atI_5, atI_nt, atI_lst, dEq_pl, dNe_pl, dEq_bl, dNe_bl, dIsN_non, dIsN_int, dIsN_str, dIsN_lst, dIsN_tup, dIsN_bl, dNotN_non, dNotN_int, dNotN_str, dNotN_lst, dNotN_tup, dNotN_bl, sqS_l, sqS_t, enS_l, enS_t, noIo, isLst, wipeR, isi_list_n, isi_list_b, isi_list_i, isi_list_s, isi_list_l, isi_list_t, isi_tuple_n, isi_tuple_b, isi_tuple_i, isi_tuple_s, isi_tuple_l, isi_tuple_t, isi_bool_n, isi_bool_b, isi_bool_i, isi_bool_s, isi_bool_l, isi_bool_t, isi_int_n, isi_int_b, isi_int_i, isi_int_s, isi_int_l, isi_int_t, isi_str_n, isi_str_b, isi_str_i, isi_str_s, isi_str_l, isi_str_t, List.foldr_cons, List.foldr_nil, List.getElem?_cons_zero, List.getElem?_cons_succ, List.set_cons_zero, List.set_cons_succ, List.length_cons, List.length_nil, List.replicate_succ, List.replicate_zero, List.cons_append, List.nil_append, List.map_cons, List.map_nil, Nat.reduceAdd, Nat.reduceSub, Nat.reduceLeDiff, Nat.reduceLT, sizeLine_val, ite_true, ite_false, if_true, if_false, Bool.false_eq_true, Bool.true_eq_false, decide_eq_true_eq, Bool.not_eq_true', Bool.not_true, Bool.not_false, decide_true, decide_false, decide_eq_false_iff_not, D.int.injEq, D.str.injEq, D.bl.injEq, reduceCtorEq, Int.cast_ofNat_Int, Int.reduceNeg, Int.reducePow, Int.reduceLE, Int.reduceLT, Int.reduceToNat, and_self, Int.reduceEq, Int.reduceNe, Nat.reduceEqDiff, not_false_eq_true, not_true_eq_false, Int.toNat_natCast, List.range_succ, List.range_zero, a_turn, nxP_nx, nxP_cnt, nxP_ite, ↓reduceIte, net_fault_9x c n L e _ hs]
theorem tri_tup (L : List Ed) (ρ : Rho) (τ : Tau) (h : 6 < ρ.length) : lcL (gN 6) tYes (eCallB cTuple (aCons (eVarB 6) aNil)) ρ (L.map tri) τ = .ok (L.map tri) τ := by
  refine lc_map tri fun x _ => ⟨_, rfl, ?_⟩
  simp only [a_kBin2, a_kBin, a_kUn, a_kIfE, a_kAndT, a_kOrT, a_kNotT, a_kCons2, a_kCons, a_kCallB, a_kTup, a_kLst, a_kDrop, a_kRet, a_kIfS, a_kSet, a_kSetF, a_kFor, a_kPar2, a_kPar, a_kAnd, a_kOr, a_kNot, a_kCh3, a_kCh2, a_kCh1, a_kSl3, a_kSl2, a_kSl1, a_koSo, a_kOfL, a_krC2, a_krC, a_krIo, a_krDef, a_kCall, a_kCallIo, a_kRaise, a_ktOf, a_kTgt, a_kRng1, a_kRng2, a_kEn, a_kZp2, a_kZp, a_kiLst, a_kLc2, a_kLc, a_kMut, a_kPut2, a_kPut, a_kDPut2, a_kDPut, a_kFldS, a_kMake, a_kLenO, a_runB, a_C, a_Bin, a_Un, a_If, a_tAnd, a_tOr, a_tNot, a_tYes, a_Nil, a_Cons, a_CallB, a_Tup, a_Lst, a_Next, a_Brk, a_Cnt, a_Bad, a_Seq, a_Drop, a_Ret, a_sIf, a_Set, a_SetF, a_Frz, a_For, a_Par, a_AndS, a_OrS, a_Not, a_ChainS, a_Sl, a_oNo, a_oSo, a_iSqS, a_iEnS, a_rNil, a_rCons, a_rDef, a_rIo, a_CallIo, a_Call, a_Raise, a_Var, a_VarB, a_tOf, a_Tgt, a_RetOwn, a_IoIx, a_iRng1, a_iRng2, a_iEn, a_iZp, a_iLst, a_Lc, a_Mut, a_Put, a_DPut, a_FldS, a_Tried, a_Make, a_LenO, a_ForD0, a_getC, a_setC, a_frzR, bind_ok', bind_exc, bind_bad, bind_ite, andS_ok, andS_exc, andS_bad, andS_ite, of_some, of_none, of_ite, sq_nx, sq_ret, sq_brk, sq_cnt, sq_exc, sq_bad, sq_ite, out_ret, out_nxF, out_exc, out_ite, back_ok, back_exc, back_ite, selB_bl, selB_ite, g_N, g_Tt, g_Tl, g_nil, g_cons, dLt_i, dLe_i, dGt_i, dGe_i, dAdd_i, dSub_i, dNeg_i, dIx_l, dIx_t, cLen_l, cLen_t, cList_l, cList_t, cTuple_l, cTuple_t, cMin_i, cMax_i, atI_zero, atI_one, atI_2, atI_3, atI_4, atI_5, atI_nt, atI_lst, dEq_pl, dNe_pl, dEq_bl, dNe_bl, dIsN_non, dIsN_int, dIsN_str, dIsN_lst, dIsN_tup, dIsN_bl, dNotN_non, dNotN_int, dNotN_str, dNotN_lst, dNotN_tup, dNotN_bl, sqS_l, sqS_t, enS_l, enS_t, noIo, isLst, wipeR, isi_list_n, isi_list_b, isi_list_i, isi_list_s, isi_list_l, isi_list_t, isi_tuple_n, isi_tuple_b, isi_tuple_i, isi_tuple_s, isi_tuple_l, isi_tuple_t, isi_bool_n, isi_bool_b, isi_bool_i, isi_bool_s, isi_bool_l, isi_bool_t, isi_int_n, isi_int_b, isi_int_i, isi_int_s, isi_int_l, isi_int_t, isi_str_n, isi_str_b, isi_str_i, isi_str_s, isi_str_l, isi_str_t, List.foldr_cons, List.foldr_nil, List.getElem?_cons_zero, List.getElem?_cons_succ, List.set_cons_zero, List.set_cons_succ, List.length_cons, List.length_nil, List.replicate_succ, List.replicate_zero, List.cons_append, List.nil_append, List.map_cons, List.map_nil, Nat.reduceAdd, Nat.reduceSub, Nat.reduceLeDiff, Nat.reduceLT, sizeLine_val, ite_true, ite_false, if_true, if_false, Bool.false_eq_true, Bool.true_eq_false, decide_eq_true_eq, Bool.not_eq_true', Bool.not_true, Bool.not_false, decide_true, decide_false, decide_eq_false_iff_not, D.int.injEq, D.str.injEq, D.bl.injEq, reduceCtorEq, Int.cast_ofNat_Int, Int.reduceNeg, Int.reducePow, Int.reduceLE, Int.reduceLT, Int.reduceToNat, and_self, Int.reduceEq, Int.reduceNe, Nat.reduceEqDiff, not_false_eq_true, not_true_eq_false, Int.toNat_natCast, List.range_succ, List.range_zero, a_turn, nxP_nx, nxP_cnt, nxP_ite, ↓reduceIte]
  rw [List.getElem?_set_self h]
  simp only [a_kBin2, a_kBin, a_kUn, a_kIfE, a_kAndT, a_kOrT, a_kNotT, a_kCons2, a_kCons, a_kCallB, a_kTup, a_kLst, a_kDrop, a_kRet, a_kIfS, a_kSet, a_kSetF, a_kFor, a_kPar2, a_kPar, a_kAnd, a_kOr, a_kNot, a_kCh3, a_kCh2, a_kCh1, a_kSl3, a_kSl2, a_kSl1, a_koSo, a_kOfL, a_krC2, a_krC, a_krIo, a_krDef, a_kCall, a_kCallIo, a_kRaise, a_ktOf, a_kTgt, a_kRng1, a_kRng2, a_kEn, a_kZp2, a_kZp, a_kiLst, a_kLc2, a_kLc, a_kMut, a_kPut2, a_kPut, a_kDPut2, a_kDPut, a_kFldS, a_kMake, a_kLenO, a_runB, a_C, a_Bin, a_Un, a_If, a_tAnd, a_tOr, a_tNot, a_tYes, a_Nil, a_Cons, a_CallB, a_Tup, a_Lst, a_Next, a_Brk, a_Cnt, a_Bad, a_Seq, a_Drop, a_Ret, a_sIf, a_Set, a_SetF, a_Frz, a_For, a_Par, a_AndS, a_OrS, a_Not, a_ChainS, a_Sl, a_oNo, a_oSo, a_iSqS, a_iEnS, a_rNil, a_rCons, a_rDef, a_rIo, a_CallIo, a_Call, a_Raise, a_Var, a_VarB, a_tOf, a_Tgt, a_RetOwn, a_IoIx, a_iRng1, a_iRng2, a_iEn, a_iZp, a_iLst, a_Lc, a_Mut, a_Put, a_DPut, a_FldS, a_Tried, a_Make, a_LenO, a_ForD0, a_getC, a_setC, a_frzR, bind_ok', bind_exc, bind_bad, bind_ite, andS_ok, andS_exc, andS_bad, andS_ite, of_some, of_none, of_ite, sq_nx, sq_ret, sq_brk, sq_cnt, sq_exc, sq_bad, sq_ite, out_ret, out_nxF, out_exc, out_ite, back_ok, back_exc, back_ite, selB_bl, selB_ite, g_N, g_Tt, g_Tl, g_nil, g_cons, dLt_i, dLe_i, dGt_i, dGe_i, dAdd_i, dSub_i, dNeg_i, dIx_l, dIx_t, cLen_l, cLen_t, cList_l, cList_t, cTuple_l, cTuple_t, cMin_i, cMax_i, atI_zero, atI_one, atI_2, atI_3, atI_4, atI_5, atI_nt, atI_lst, dEq_pl, dNe_pl, dEq_bl, dNe_bl, dIsN_non, dIsN_int, dIsN_str, dIsN_lst, dIsN_tup, dIsN_bl, dNotN_non, dNotN_int, dNotN_str, dNotN_lst, dNotN_tup, dNotN_bl, sqS_l, sqS_t, enS_l, enS_t, noIo, isLst, wipeR, isi_list_n, isi_list_b, isi_list_i, isi_list_s, isi_list_l, isi_list_t, isi_tuple_n, isi_tuple_b, isi_tuple_i, isi_tuple_s, isi_tuple_l, isi_tuple_t, isi_bool_n, isi_bool_b, isi_bool_i, isi_bool_s, isi_bool_l, isi_bool_t, isi_int_n, isi_int_b, isi_int_i, isi_int_s, isi_int_l, isi_int_t, isi_str_n, isi_str_b, isi_str_i, isi_str_s, isi_str_l, isi_str_t, List.foldr_cons, List.foldr_nil, List.getElem?_cons_zero, List.getElem?_cons_succ, List.set_cons_zero, List.set_cons_succ, List.length_cons, List.length_nil, List.replicate_succ, List.replicate_zero, List.cons_append, List.nil_append, List.map_cons, List.map_nil, Nat.reduceAdd, Nat.reduceSub, Nat.reduceLeDiff, Nat.reduceLT, sizeLine_val, ite_true, ite_false, if_true, if_false, Bool.false_eq_true, Bool.true_eq_false, decide_eq_true_eq, Bool.not_eq_true', Bool.not_true, Bool.not_false, decide_true, decide_false, decide_eq_false_iff_not, D.int.injEq, D.str.injEq, D.bl.injEq, reduceCtorEq, Int.cast_ofNat_Int, Int.reduceNeg, Int.reducePow, Int.reduceLE, Int.reduceLT, Int.reduceToNat, and_self, Int.reduceEq, Int.reduceNe, Nat.reduceEqDiff, not_false_eq_true, not_true_eq_false, Int.toNat_natCast, List.range_succ, List.range_zero, a_turn, nxP_nx, nxP_cnt, nxP_ite, ↓reduceIte, tri]
theorem net_init_ok (c n : Int) (L : List Ed) (hl : L.length ≤ 1000) (hs : szE c n L.length = none) (hm : ef c n L = none → mix L = []) : m_Net_init [.io 0, .fz (.int c), .fz (.int n), .fz (.lst (L.map tri)), .fz (.ctup [])] [.ins "Net" [] []] =
    match ef c n L with
    | some i => .exc ⟨"BadNet", ["fault", "tag"], [efD (some i), .str "BadNet"]⟩ [.ins "Net" [] []]
    | none => .ok .non [netD c n L] := by
  have h3 : m_swap_table [.fz (.ctup [])] [] = .ok (.dct true [] []) [] := by
    simp only [m_swap_table, b_swap_table, a_kBin2, a_kBin, a_kUn, a_kIfE, a_kAndT, a_kOrT, a_kNotT, a_kCons2, a_kCons, a_kCallB, a_kTup, a_kLst, a_kDrop, a_kRet, a_kIfS, a_kSet, a_kSetF, a_kFor, a_kPar2, a_kPar, a_kAnd, a_kOr, a_kNot, a_kCh3, a_kCh2, a_kCh1, a_kSl3, a_kSl2, a_kSl1, a_koSo, a_kOfL, a_krC2, a_krC, a_krIo, a_krDef, a_kCall, a_kCallIo, a_kRaise, a_ktOf, a_kTgt, a_kRng1, a_kRng2, a_kEn, a_kZp2, a_kZp, a_kiLst, a_kLc2, a_kLc, a_kMut, a_kPut2, a_kPut, a_kDPut2, a_kDPut, a_kFldS, a_kMake, a_kLenO, a_runB, a_C, a_Bin, a_Un, a_If, a_tAnd, a_tOr, a_tNot, a_tYes, a_Nil, a_Cons, a_CallB, a_Tup, a_Lst, a_Next, a_Brk, a_Cnt, a_Bad, a_Seq, a_Drop, a_Ret, a_sIf, a_Set, a_SetF, a_Frz, a_For, a_Par, a_AndS, a_OrS, a_Not, a_ChainS, a_Sl, a_oNo, a_oSo, a_iSqS, a_iEnS, a_rNil, a_rCons, a_rDef, a_rIo, a_CallIo, a_Call, a_Raise, a_Var, a_VarB, a_tOf, a_Tgt, a_RetOwn, a_IoIx, a_iRng1, a_iRng2, a_iEn, a_iZp, a_iLst, a_Lc, a_Mut, a_Put, a_DPut, a_FldS, a_Tried, a_Make, a_LenO, a_ForD0, a_getC, a_setC, a_frzR, bind_ok', bind_exc, bind_bad, bind_ite, andS_ok, andS_exc, andS_bad, andS_ite, of_some, of_none, of_ite, sq_nx, sq_ret, sq_brk, sq_cnt, sq_exc, sq_bad, sq_ite, out_ret, out_nxF, out_exc, out_ite, back_ok, back_exc, back_ite, selB_bl, selB_ite, g_N, g_Tt, g_Tl, g_nil, g_cons, dLt_i, dLe_i, dGt_i, dGe_i, dAdd_i, dSub_i, dNeg_i, dIx_l, dIx_t, cLen_l, cLen_t, cList_l, cList_t, cTuple_l, cTuple_t, cMin_i, cMax_i, atI_zero, atI_one, atI_2, atI_3, atI_4, atI_5, atI_nt, atI_lst, dEq_pl, dNe_pl, dEq_bl, dNe_bl, dIsN_non, dIsN_int, dIsN_str, dIsN_lst, dIsN_tup, dIsN_bl, dNotN_non, dNotN_int, dNotN_str, dNotN_lst, dNotN_tup, dNotN_bl, sqS_l, sqS_t, enS_l, enS_t, noIo, isLst, wipeR, isi_list_n, isi_list_b, isi_list_i, isi_list_s, isi_list_l, isi_list_t, isi_tuple_n, isi_tuple_b, isi_tuple_i, isi_tuple_s, isi_tuple_l, isi_tuple_t, isi_bool_n, isi_bool_b, isi_bool_i, isi_bool_s, isi_bool_l, isi_bool_t, isi_int_n, isi_int_b, isi_int_i, isi_int_s, isi_int_l, isi_int_t, isi_str_n, isi_str_b, isi_str_i, isi_str_s, isi_str_l, isi_str_t, List.foldr_cons, List.foldr_nil, List.getElem?_cons_zero, List.getElem?_cons_succ, List.set_cons_zero, List.set_cons_succ, List.length_cons, List.length_nil, List.replicate_succ, List.replicate_zero, List.cons_append, List.nil_append, List.map_cons, List.map_nil, Nat.reduceAdd, Nat.reduceSub, Nat.reduceLeDiff, Nat.reduceLT, sizeLine_val, ite_true, ite_false, if_true, if_false, Bool.false_eq_true, Bool.true_eq_false, decide_eq_true_eq, Bool.not_eq_true', Bool.not_true, Bool.not_false, decide_true, decide_false, decide_eq_false_iff_not, D.int.injEq, D.str.injEq, D.bl.injEq, reduceCtorEq, Int.cast_ofNat_Int, Int.reduceNeg, Int.reducePow, Int.reduceLE, Int.reduceLT, Int.reduceToNat, and_self, Int.reduceEq, Int.reduceNe, Nat.reduceEqDiff, not_false_eq_true, not_true_eq_false, Int.toNat_natCast, List.range_succ, List.range_zero, a_turn, nxP_nx, nxP_cnt, nxP_ite, ↓reduceIte, sqS, for_nil]
  simp only [m_Net_init, b_Net_init, a_kBin2, a_kBin, a_kUn, a_kIfE, a_kAndT, a_kOrT, a_kNotT, a_kCons2, a_kCons, a_kCallB, a_kTup, a_kLst, a_kDrop, a_kRet, a_kIfS, a_kSet, a_kSetF, a_kFor, a_kPar2, a_kPar, a_kAnd, a_kOr, a_kNot, a_kCh3, a_kCh2, a_kCh1, a_kSl3, a_kSl2, a_kSl1, a_koSo, a_kOfL, a_krC2, a_krC, a_krIo, a_krDef, a_kCall, a_kCallIo, a_kRaise, a_ktOf, a_kTgt, a_kRng1, a_kRng2, a_kEn, a_kZp2, a_kZp, a_kiLst, a_kLc2, a_kLc, a_kMut, a_kPut2, a_kPut, a_kDPut2, a_kDPut, a_kFldS, a_kMake, a_kLenO, a_runB, a_C, a_Bin, a_Un, a_If, a_tAnd, a_tOr, a_tNot, a_tYes, a_Nil, a_Cons, a_CallB, a_Tup, a_Lst, a_Next, a_Brk, a_Cnt, a_Bad, a_Seq, a_Drop, a_Ret, a_sIf, a_Set, a_SetF, a_Frz, a_For, a_Par, a_AndS, a_OrS, a_Not, a_ChainS, a_Sl, a_oNo, a_oSo, a_iSqS, a_iEnS, a_rNil, a_rCons, a_rDef, a_rIo, a_CallIo, a_Call, a_Raise, a_Var, a_VarB, a_tOf, a_Tgt, a_RetOwn, a_IoIx, a_iRng1, a_iRng2, a_iEn, a_iZp, a_iLst, a_Lc, a_Mut, a_Put, a_DPut, a_FldS, a_Tried, a_Make, a_LenO, a_ForD0, a_getC, a_setC, a_frzR, bind_ok', bind_exc, bind_bad, bind_ite, andS_ok, andS_exc, andS_bad, andS_ite, of_some, of_none, of_ite, sq_nx, sq_ret, sq_brk, sq_cnt, sq_exc, sq_bad, sq_ite, out_ret, out_nxF, out_exc, out_ite, back_ok, back_exc, back_ite, selB_bl, selB_ite, g_N, g_Tt, g_Tl, g_nil, g_cons, dLt_i, dLe_i, dGt_i, dGe_i, dAdd_i, dSub_i, dNeg_i, dIx_l, dIx_t, cLen_l, cLen_t, cList_l, cList_t, cTuple_l, cTuple_t, cMin_i, cMax_i, atI_zero, atI_one, atI_2, atI_3, atI_4, atI_5, atI_nt, atI_lst, dEq_pl, dNe_pl, dEq_bl, dNe_bl, dIsN_non, dIsN_int, dIsN_str, dIsN_lst, dIsN_tup, dIsN_bl, dNotN_non, dNotN_int, dNotN_str, dNotN_lst, dNotN_tup, dNotN_bl, sqS_l, sqS_t, enS_l, enS_t, noIo, isLst, wipeR, isi_list_n, isi_list_b, isi_list_i, isi_list_s, isi_list_l, isi_list_t, isi_tuple_n, isi_tuple_b, isi_tuple_i, isi_tuple_s, isi_tuple_l, isi_tuple_t, isi_bool_n, isi_bool_b, isi_bool_i, isi_bool_s, isi_bool_l, isi_bool_t, isi_int_n, isi_int_b, isi_int_i, isi_int_s, isi_int_l, isi_int_t, isi_str_n, isi_str_b, isi_str_i, isi_str_s, isi_str_l, isi_str_t, List.foldr_cons, List.foldr_nil, List.getElem?_cons_zero, List.getElem?_cons_succ, List.set_cons_zero, List.set_cons_succ, List.length_cons, List.length_nil, List.replicate_succ, List.replicate_zero, List.cons_append, List.nil_append, List.map_cons, List.map_nil, Nat.reduceAdd, Nat.reduceSub, Nat.reduceLeDiff, Nat.reduceLT, sizeLine_val, ite_true, ite_false, if_true, if_false, Bool.false_eq_true, Bool.true_eq_false, decide_eq_true_eq, Bool.not_eq_true', Bool.not_true, Bool.not_false, decide_true, decide_false, decide_eq_false_iff_not, D.int.injEq, D.str.injEq, D.bl.injEq, reduceCtorEq, Int.cast_ofNat_Int, Int.reduceNeg, Int.reducePow, Int.reduceLE, Int.reduceLT, Int.reduceToNat, and_self, Int.reduceEq, Int.reduceNe, Nat.reduceEqDiff, not_false_eq_true, not_true_eq_false, Int.toNat_natCast, List.range_succ, List.range_zero, a_turn, nxP_nx, nxP_cnt, nxP_ite, ↓reduceIte, net_fault_0 c n L hl hs hm, faultD]
  cases he : ef c n L with
  | some i => simp only [efD, a_kBin2, a_kBin, a_kUn, a_kIfE, a_kAndT, a_kOrT, a_kNotT, a_kCons2, a_kCons, a_kCallB, a_kTup, a_kLst, a_kDrop, a_kRet, a_kIfS, a_kSet, a_kSetF, a_kFor, a_kPar2, a_kPar, a_kAnd, a_kOr, a_kNot, a_kCh3, a_kCh2, a_kCh1, a_kSl3, a_kSl2, a_kSl1, a_koSo, a_kOfL, a_krC2, a_krC, a_krIo, a_krDef, a_kCall, a_kCallIo, a_kRaise, a_ktOf, a_kTgt, a_kRng1, a_kRng2, a_kEn, a_kZp2, a_kZp, a_kiLst, a_kLc2, a_kLc, a_kMut, a_kPut2, a_kPut, a_kDPut2, a_kDPut, a_kFldS, a_kMake, a_kLenO, a_runB, a_C, a_Bin, a_Un, a_If, a_tAnd, a_tOr, a_tNot, a_tYes, a_Nil, a_Cons, a_CallB, a_Tup, a_Lst, a_Next, a_Brk, a_Cnt, a_Bad, a_Seq, a_Drop, a_Ret, a_sIf, a_Set, a_SetF, a_Frz, a_For, a_Par, a_AndS, a_OrS, a_Not, a_ChainS, a_Sl, a_oNo, a_oSo, a_iSqS, a_iEnS, a_rNil, a_rCons, a_rDef, a_rIo, a_CallIo, a_Call, a_Raise, a_Var, a_VarB, a_tOf, a_Tgt, a_RetOwn, a_IoIx, a_iRng1, a_iRng2, a_iEn, a_iZp, a_iLst, a_Lc, a_Mut, a_Put, a_DPut, a_FldS, a_Tried, a_Make, a_LenO, a_ForD0, a_getC, a_setC, a_frzR, bind_ok', bind_exc, bind_bad, bind_ite, andS_ok, andS_exc, andS_bad, andS_ite, of_some, of_none, of_ite, sq_nx, sq_ret, sq_brk, sq_cnt, sq_exc, sq_bad, sq_ite, out_ret, out_nxF, out_exc, out_ite, back_ok, back_exc, back_ite, selB_bl, selB_ite, g_N, g_Tt, g_Tl, g_nil, g_cons, dLt_i, dLe_i, dGt_i, dGe_i, dAdd_i, dSub_i, dNeg_i, dIx_l, dIx_t, cLen_l, cLen_t, cList_l, cList_t, cTuple_l, cTuple_t, cMin_i, cMax_i, atI_zero, atI_one, atI_2, atI_3, atI_4, atI_5, atI_nt, atI_lst, dEq_pl, dNe_pl, dEq_bl, dNe_bl, dIsN_non, dIsN_int, dIsN_str, dIsN_lst, dIsN_tup, dIsN_bl, dNotN_non, dNotN_int, dNotN_str, dNotN_lst, dNotN_tup, dNotN_bl, sqS_l, sqS_t, enS_l, enS_t, noIo, isLst, wipeR, isi_list_n, isi_list_b, isi_list_i, isi_list_s, isi_list_l, isi_list_t, isi_tuple_n, isi_tuple_b, isi_tuple_i, isi_tuple_s, isi_tuple_l, isi_tuple_t, isi_bool_n, isi_bool_b, isi_bool_i, isi_bool_s, isi_bool_l, isi_bool_t, isi_int_n, isi_int_b, isi_int_i, isi_int_s, isi_int_l, isi_int_t, isi_str_n, isi_str_b, isi_str_i, isi_str_s, isi_str_l, isi_str_t, List.foldr_cons, List.foldr_nil, List.getElem?_cons_zero, List.getElem?_cons_succ, List.set_cons_zero, List.set_cons_succ, List.length_cons, List.length_nil, List.replicate_succ, List.replicate_zero, List.cons_append, List.nil_append, List.map_cons, List.map_nil, Nat.reduceAdd, Nat.reduceSub, Nat.reduceLeDiff, Nat.reduceLT, sizeLine_val, ite_true, ite_false, if_true, if_false, Bool.false_eq_true, Bool.true_eq_false, decide_eq_true_eq, Bool.not_eq_true', Bool.not_true, Bool.not_false, decide_true, decide_false, decide_eq_false_iff_not, D.int.injEq, D.str.injEq, D.bl.injEq, reduceCtorEq, Int.cast_ofNat_Int, Int.reduceNeg, Int.reducePow, Int.reduceLE, Int.reduceLT, Int.reduceToNat, and_self, Int.reduceEq, Int.reduceNe, Nat.reduceEqDiff, not_false_eq_true, not_true_eq_false, Int.toNat_natCast, List.range_succ, List.range_zero, a_turn, nxP_nx, nxP_cnt, nxP_ite, ↓reduceIte, List.getD_cons_zero]
  | none =>
    simp (disch := simp) only [a_kBin2, a_kBin, a_kUn, a_kIfE, a_kAndT, a_kOrT, a_kNotT, a_kCons2, a_kCons, a_kCallB, a_kTup, a_kLst, a_kDrop, a_kRet, a_kIfS, a_kSet, a_kSetF, a_kFor, a_kPar2, a_kPar, a_kAnd, a_kOr, a_kNot, a_kCh3, a_kCh2, a_kCh1, a_kSl3, a_kSl2, a_kSl1, a_koSo, a_kOfL, a_krC2, a_krC, a_krIo, a_krDef, a_kCall, a_kCallIo, a_kRaise, a_ktOf, a_kTgt, a_kRng1, a_kRng2, a_kEn, a_kZp2, a_kZp, a_kiLst, a_kLc2, a_kLc, a_kMut, a_kPut2, a_kPut, a_kDPut2, a_kDPut, a_kFldS, a_kMake, a_kLenO, a_runB, a_C, a_Bin, a_Un, a_If, a_tAnd, a_tOr, a_tNot, a_tYes, a_Nil, a_Cons, a_CallB, a_Tup, a_Lst, a_Next, a_Brk, a_Cnt, a_Bad, a_Seq, a_Drop, a_Ret, a_sIf, a_Set, a_SetF, a_Frz, a_For, a_Par, a_AndS, a_OrS, a_Not, a_ChainS, a_Sl, a_oNo, a_oSo, a_iSqS, a_iEnS, a_rNil, a_rCons, a_rDef, a_rIo, a_CallIo, a_Call, a_Raise, a_Var, a_VarB, a_tOf, a_Tgt, a_RetOwn, a_IoIx, a_iRng1, a_iRng2, a_iEn, a_iZp, a_iLst, a_Lc, a_Mut, a_Put, a_DPut, a_FldS, a_Tried, a_Make, a_LenO, a_ForD0, a_getC, a_setC, a_frzR, bind_ok', bind_exc, bind_bad, bind_ite, andS_ok, andS_exc, andS_bad, andS_ite, of_some, of_none, of_ite, sq_nx, sq_ret, sq_brk, sq_cnt, sq_exc, sq_bad, sq_ite, out_ret, out_nxF, out_exc, out_ite, back_ok, back_exc, back_ite, selB_bl, selB_ite, g_N, g_Tt, g_Tl, g_nil, g_cons, dLt_i, dLe_i, dGt_i, dGe_i, dAdd_i, dSub_i, dNeg_i, dIx_l, dIx_t, cLen_l, cLen_t, cList_l, cList_t, cTuple_l, cTuple_t, cMin_i, cMax_i, atI_zero, atI_one, atI_2, atI_3, atI_4, atI_5, atI_nt, atI_lst, dEq_pl, dNe_pl, dEq_bl, dNe_bl, dIsN_non, dIsN_int, dIsN_str, dIsN_lst, dIsN_tup, dIsN_bl, dNotN_non, dNotN_int, dNotN_str, dNotN_lst, dNotN_tup, dNotN_bl, sqS_l, sqS_t, enS_l, enS_t, noIo, isLst, wipeR, isi_list_n, isi_list_b, isi_list_i, isi_list_s, isi_list_l, isi_list_t, isi_tuple_n, isi_tuple_b, isi_tuple_i, isi_tuple_s, isi_tuple_l, isi_tuple_t, isi_bool_n, isi_bool_b, isi_bool_i, isi_bool_s, isi_bool_l, isi_bool_t, isi_int_n, isi_int_b, isi_int_i, isi_int_s, isi_int_l, isi_int_t, isi_str_n, isi_str_b, isi_str_i, isi_str_s, isi_str_l, isi_str_t, List.foldr_cons, List.foldr_nil, List.getElem?_cons_zero, List.getElem?_cons_succ, List.set_cons_zero, List.set_cons_succ, List.length_cons, List.length_nil, List.replicate_succ, List.replicate_zero, List.cons_append, List.nil_append, List.map_cons, List.map_nil, Nat.reduceAdd, Nat.reduceSub, Nat.reduceLeDiff, Nat.reduceLT, sizeLine_val, ite_true, ite_false, if_true, if_false, Bool.false_eq_true, Bool.true_eq_false, decide_eq_true_eq, Bool.not_eq_true', Bool.not_true, Bool.not_false, decide_true, decide_false, decide_eq_false_iff_not, D.int.injEq, D.str.injEq, D.bl.injEq, reduceCtorEq, Int.cast_ofNat_Int, Int.reduceNeg, Int.reducePow, Int.reduceLE, Int.reduceLT, Int.reduceToNat, and_self, Int.reduceEq, Int.reduceNe, Nat.reduceEqDiff, not_false_eq_true, not_true_eq_false, Int.toNat_natCast, List.range_succ, List.range_zero, a_turn, nxP_nx, nxP_cnt, nxP_ite, ↓reduceIte, tri_tup, h3, netput_0, netput_1, netput_2, netput_3, netput_4, efD, List.length_map, lcL, sqS, cSort, intsOf, Option.map_some, sortI, (show L.length ≤ 16777216 by omega), netD, List.map_nil]
/-- nothing is lacking -/
theorem complete_ok (n : Int) (L : List Ed) (hl : L.length ≤ 1000) (hm : ef 2 n L = none → mix L = []) : m_complete_swaps [.fz (.int n), .fz (.lst (L.map tri)), .fz (.ctup [])] [] =
    match szE 2 n L.length with
    | some e => .exc e []
    | none => match ef 2 n L with
      | some i => .exc ⟨"BadNet", ["fault", "tag"], [efD (some i), .str "BadNet"]⟩ []
      | none => .ok (.lst []) [] := by
  have h2 : m_swap_fault [.fz (.lst (L.map tri)), .fz (.ctup [])] [] = .ok .non [] := by
    simp only [m_swap_fault, b_swap_fault, a_kBin2, a_kBin, a_kUn, a_kIfE, a_kAndT, a_kOrT, a_kNotT, a_kCons2, a_kCons, a_kCallB, a_kTup, a_kLst, a_kDrop, a_kRet, a_kIfS, a_kSet, a_kSetF, a_kFor, a_kPar2, a_kPar, a_kAnd, a_kOr, a_kNot, a_kCh3, a_kCh2, a_kCh1, a_kSl3, a_kSl2, a_kSl1, a_koSo, a_kOfL, a_krC2, a_krC, a_krIo, a_krDef, a_kCall, a_kCallIo, a_kRaise, a_ktOf, a_kTgt, a_kRng1, a_kRng2, a_kEn, a_kZp2, a_kZp, a_kiLst, a_kLc2, a_kLc, a_kMut, a_kPut2, a_kPut, a_kDPut2, a_kDPut, a_kFldS, a_kMake, a_kLenO, a_runB, a_C, a_Bin, a_Un, a_If, a_tAnd, a_tOr, a_tNot, a_tYes, a_Nil, a_Cons, a_CallB, a_Tup, a_Lst, a_Next, a_Brk, a_Cnt, a_Bad, a_Seq, a_Drop, a_Ret, a_sIf, a_Set, a_SetF, a_Frz, a_For, a_Par, a_AndS, a_OrS, a_Not, a_ChainS, a_Sl, a_oNo, a_oSo, a_iSqS, a_iEnS, a_rNil, a_rCons, a_rDef, a_rIo, a_CallIo, a_Call, a_Raise, a_Var, a_VarB, a_tOf, a_Tgt, a_RetOwn, a_IoIx, a_iRng1, a_iRng2, a_iEn, a_iZp, a_iLst, a_Lc, a_Mut, a_Put, a_DPut, a_FldS, a_Tried, a_Make, a_LenO, a_ForD0, a_getC, a_setC, a_frzR, bind_ok', bind_exc, bind_bad, bind_ite, andS_ok, andS_exc, andS_bad, andS_ite, of_some, of_none, of_ite, sq_nx, sq_ret, sq_brk, sq_cnt, sq_exc, sq_bad, sq_ite, out_ret, out_nxF, out_exc, out_ite, back_ok, back_exc, back_ite, selB_bl, selB_ite, g_N, g_Tt, g_Tl, g_nil, g_cons, dLt_i, dLe_i, dGt_i, dGe_i, dAdd_i, dSub_i, dNeg_i, dIx_l, dIx_t, cLen_l, cLen_t, cList_l, cList_t, cTuple_l, cTuple_t, cMin_i, cMax_i, atI_zero, atI_one, atI_2, atI_3, atI_4, atI_5, atI_nt, atI_lst, dEq_pl, dNe_pl, dEq_bl, dNe_bl, dIsN_non, dIsN_int, dIsN_str, dIsN_lst, dIsN_tup, dIsN_bl, dNotN_non, dNotN_int, dNotN_str, dNotN_lst, dNotN_tup, dNotN_bl, sqS_l, sqS_t, enS_l, enS_t, noIo, isLst, wipeR, isi_list_n, isi_list_b, isi_list_i, isi_list_s, isi_list_l, isi_list_t, isi_tuple_n, isi_tuple_b, isi_tuple_i, isi_tuple_s, isi_tuple_l, isi_tuple_t, isi_bool_n, isi_bool_b, isi_bool_i, isi_bool_s, isi_bool_l, isi_bool_t, isi_int_n, isi_int_b, isi_int_i, isi_int_s, isi_int_l, isi_int_t, isi_str_n, isi_str_b, isi_str_i, isi_str_s, isi_str_l, isi_str_t, List.foldr_cons, List.foldr_nil, List.getElem?_cons_zero, List.getElem?_cons_succ, List.set_cons_zero, List.set_cons_succ, List.length_cons, List.length_nil, List.replicate_succ, List.replicate_zero, List.cons_append, List.nil_append, List.map_cons, List.map_nil, Nat.reduceAdd, Nat.reduceSub, Nat.reduceLeDiff, Nat.reduceLT, sizeLine_val, ite_true, ite_false, if_true, if_false, Bool.false_eq_true, Bool.true_eq_false, decide_eq_true_eq, Bool.not_eq_true', Bool.not_true, Bool.not_false, decide_true, decide_false, decide_eq_false_iff_not, D.int.injEq, D.str.injEq, D.bl.injEq, reduceCtorEq, Int.cast_ofNat_Int, Int.reduceNeg, Int.reducePow, Int.reduceLE, Int.reduceLT, Int.reduceToNat, and_self, Int.reduceEq, Int.reduceNe, Nat.reduceEqDiff, not_false_eq_true, not_true_eq_false, Int.toNat_natCast, List.range_succ, List.range_zero, a_turn, nxP_nx, nxP_cnt, nxP_ite, ↓reduceIte, enS, for_nil]
  have h3 : m_swap_table [.fz (.ctup [])] [] = .ok (.dct true [] []) [] := by
    simp only [m_swap_table, b_swap_table, a_kBin2, a_kBin, a_kUn, a_kIfE, a_kAndT, a_kOrT, a_kNotT, a_kCons2, a_kCons, a_kCallB, a_kTup, a_kLst, a_kDrop, a_kRet, a_kIfS, a_kSet, a_kSetF, a_kFor, a_kPar2, a_kPar, a_kAnd, a_kOr, a_kNot, a_kCh3, a_kCh2, a_kCh1, a_kSl3, a_kSl2, a_kSl1, a_koSo, a_kOfL, a_krC2, a_krC, a_krIo, a_krDef, a_kCall, a_kCallIo, a_kRaise, a_ktOf, a_kTgt, a_kRng1, a_kRng2, a_kEn, a_kZp2, a_kZp, a_kiLst, a_kLc2, a_kLc, a_kMut, a_kPut2, a_kPut, a_kDPut2, a_kDPut, a_kFldS, a_kMake, a_kLenO, a_runB, a_C, a_Bin, a_Un, a_If, a_tAnd, a_tOr, a_tNot, a_tYes, a_Nil, a_Cons, a_CallB, a_Tup, a_Lst, a_Next, a_Brk, a_Cnt, a_Bad, a_Seq, a_Drop, a_Ret, a_sIf, a_Set, a_SetF, a_Frz, a_For, a_Par, a_AndS, a_OrS, a_Not, a_ChainS, a_Sl, a_oNo, a_oSo, a_iSqS, a_iEnS, a_rNil, a_rCons, a_rDef, a_rIo, a_CallIo, a_Call, a_Raise, a_Var, a_VarB, a_tOf, a_Tgt, a_RetOwn, a_IoIx, a_iRng1, a_iRng2, a_iEn, a_iZp, a_iLst, a_Lc, a_Mut, a_Put, a_DPut, a_FldS, a_Tried, a_Make, a_LenO, a_ForD0, a_getC, a_setC, a_frzR, bind_ok', bind_exc, bind_bad, bind_ite, andS_ok, andS_exc, andS_bad, andS_ite, of_some, of_none, of_ite, sq_nx, sq_ret, sq_brk, sq_cnt, sq_exc, sq_bad, sq_ite, out_ret, out_nxF, out_exc, out_ite, back_ok, back_exc, back_ite, selB_bl, selB_ite, g_N, g_Tt, g_Tl, g_nil, g_cons, dLt_i, dLe_i, dGt_i, dGe_i, dAdd_i, dSub_i, dNeg_i, dIx_l, dIx_t, cLen_l, cLen_t, cList_l, cList_t, cTuple_l, cTuple_t, cMin_i, cMax_i, atI_zero, atI_one, atI_2, atI_3, atI_4, atI_5, atI_nt, atI_lst, dEq_pl, dNe_pl, dEq_bl, dNe_bl, dIsN_non, dIsN_int, dIsN_str, dIsN_lst, dIsN_tup, dIsN_bl, dNotN_non, dNotN_int, dNotN_str, dNotN_lst, dNotN_tup, dNotN_bl, sqS_l, sqS_t, enS_l, enS_t, noIo, isLst, wipeR, isi_list_n, isi_list_b, isi_list_i, isi_list_s, isi_list_l, isi_list_t, isi_tuple_n, isi_tuple_b, isi_tuple_i, isi_tuple_s, isi_tuple_l, isi_tuple_t, isi_bool_n, isi_bool_b, isi_bool_i, isi_bool_s, isi_bool_l, isi_bool_t, isi_int_n, isi_int_b, isi_int_i, isi_int_s, isi_int_l, isi_int_t, isi_str_n, isi_str_b, isi_str_i, isi_str_s, isi_str_l, isi_str_t, List.foldr_cons, List.foldr_nil, List.getElem?_cons_zero, List.getElem?_cons_succ, List.set_cons_zero, List.set_cons_succ, List.length_cons, List.length_nil, List.replicate_succ, List.replicate_zero, List.cons_append, List.nil_append, List.map_cons, List.map_nil, Nat.reduceAdd, Nat.reduceSub, Nat.reduceLeDiff, Nat.reduceLT, sizeLine_val, ite_true, ite_false, if_true, if_false, Bool.false_eq_true, Bool.true_eq_false, decide_eq_true_eq, Bool.not_eq_true', Bool.not_true, Bool.not_false, decide_true, decide_false, decide_eq_false_iff_not, D.int.injEq, D.str.injEq, D.bl.injEq, reduceCtorEq, Int.cast_ofNat_Int, Int.reduceNeg, Int.reducePow, Int.reduceLE, Int.reduceLT, Int.reduceToNat, and_self, Int.reduceEq, Int.reduceNe, Nat.reduceEqDiff, not_false_eq_true, not_true_eq_false, Int.toNat_natCast, List.range_succ, List.range_zero, a_turn, nxP_nx, nxP_cnt, nxP_ite, ↓reduceIte, sqS, for_nil]
  have h1 := check_ok 2 n (L.map tri)
  rw [List.length_map] at h1
  cases hs : szE 2 n L.length with
  | some e =>
    rw [hs] at h1
    simp only [m_complete_swaps, b_complete_swaps, a_kBin2, a_kBin, a_kUn, a_kIfE, a_kAndT, a_kOrT, a_kNotT, a_kCons2, a_kCons, a_kCallB, a_kTup, a_kLst, a_kDrop, a_kRet, a_kIfS, a_kSet, a_kSetF, a_kFor, a_kPar2, a_kPar, a_kAnd, a_kOr, a_kNot, a_kCh3, a_kCh2, a_kCh1, a_kSl3, a_kSl2, a_kSl1, a_koSo, a_kOfL, a_krC2, a_krC, a_krIo, a_krDef, a_kCall, a_kCallIo, a_kRaise, a_ktOf, a_kTgt, a_kRng1, a_kRng2, a_kEn, a_kZp2, a_kZp, a_kiLst, a_kLc2, a_kLc, a_kMut, a_kPut2, a_kPut, a_kDPut2, a_kDPut, a_kFldS, a_kMake, a_kLenO, a_runB, a_C, a_Bin, a_Un, a_If, a_tAnd, a_tOr, a_tNot, a_tYes, a_Nil, a_Cons, a_CallB, a_Tup, a_Lst, a_Next, a_Brk, a_Cnt, a_Bad, a_Seq, a_Drop, a_Ret, a_sIf, a_Set, a_SetF, a_Frz, a_For, a_Par, a_AndS, a_OrS, a_Not, a_ChainS, a_Sl, a_oNo, a_oSo, a_iSqS, a_iEnS, a_rNil, a_rCons, a_rDef, a_rIo, a_CallIo, a_Call, a_Raise, a_Var, a_VarB, a_tOf, a_Tgt, a_RetOwn, a_IoIx, a_iRng1, a_iRng2, a_iEn, a_iZp, a_iLst, a_Lc, a_Mut, a_Put, a_DPut, a_FldS, a_Tried, a_Make, a_LenO, a_ForD0, a_getC, a_setC, a_frzR, bind_ok', bind_exc, bind_bad, bind_ite, andS_ok, andS_exc, andS_bad, andS_ite, of_some, of_none, of_ite, sq_nx, sq_ret, sq_brk, sq_cnt, sq_exc, sq_bad, sq_ite, out_ret, out_nxF, out_exc, out_ite, back_ok, back_exc, back_ite, selB_bl, selB_ite, g_N, g_Tt, g_Tl, g_nil, g_cons, dLt_i, dLe_i, dGt_i, dGe_i, dAdd_i, dSub_i, dNeg_i, dIx_l, dIx_t, cLen_l, cLen_t, cList_l, cList_t, cTuple_l, cTuple_t, cMin_i, cMax_i, atI_zero, atI_one, atI_2, atI_3, atI_4, atI_5, atI_nt, atI_lst, dEq_pl, dNe_pl, dEq_bl, dNe_bl, dIsN_non, dIsN_int, dIsN_str, dIsN_lst, dIsN_tup, dIsN_bl, dNotN_non, dNotN_int, dNotN_str, dNotN_lst, dNotN_tup, dNotN_bl, sqS_l, sqS_t, enS_l, enS_t, noIo, isLst, wipeR, isi_list_n, isi_list_b, isi_list_i, isi_list_s, isi_list_l, isi_list_t, isi_tuple_n, isi_tuple_b, isi_tuple_i, isi_tuple_s, isi_tuple_l, isi_tuple_t, isi_bool_n, isi_bool_b, isi_bool_i, isi_bool_s, isi_bool_l, isi_bool_t, isi_int_n, isi_int_b, isi_int_i, isi_int_s, isi_int_l, isi_int_t, isi_str_n, isi_str_b, isi_str_i, isi_str_s, isi_str_l, isi_str_t, List.foldr_cons, List.foldr_nil, List.getElem?_cons_zero, List.getElem?_cons_succ, List.set_cons_zero, List.set_cons_succ, List.length_cons, List.length_nil, List.replicate_succ, List.replicate_zero, List.cons_append, List.nil_append, List.map_cons, List.map_nil, Nat.reduceAdd, Nat.reduceSub, Nat.reduceLeDiff, Nat.reduceLT, sizeLine_val, ite_true, ite_false, if_true, if_false, Bool.false_eq_true, Bool.true_eq_false, decide_eq_true_eq, Bool.not_eq_true', Bool.not_true, Bool.not_false, decide_true, decide_false, decide_eq_false_iff_not, D.int.injEq, D.str.injEq, D.bl.injEq, reduceCtorEq, Int.cast_ofNat_Int, Int.reduceNeg, Int.reducePow, Int.reduceLE, Int.reduceLT, Int.reduceToNat, and_self, Int.reduceEq, Int.reduceNe, Nat.reduceEqDiff, not_false_eq_true, not_true_eq_false, Int.toNat_natCast, List.range_succ, List.range_zero, a_turn, nxP_nx, nxP_cnt, nxP_ite, ↓reduceIte, h1, excO]
  | none =>
    rw [hs] at h1
    simp only [m_complete_swaps, b_complete_swaps, a_kBin2, a_kBin, a_kUn, a_kIfE, a_kAndT, a_kOrT, a_kNotT, a_kCons2, a_kCons, a_kCallB, a_kTup, a_kLst, a_kDrop, a_kRet, a_kIfS, a_kSet, a_kSetF, a_kFor, a_kPar2, a_kPar, a_kAnd, a_kOr, a_kNot, a_kCh3, a_kCh2, a_kCh1, a_kSl3, a_kSl2, a_kSl1, a_koSo, a_kOfL, a_krC2, a_krC, a_krIo, a_krDef, a_kCall, a_kCallIo, a_kRaise, a_ktOf, a_kTgt, a_kRng1, a_kRng2, a_kEn, a_kZp2, a_kZp, a_kiLst, a_kLc2, a_kLc, a_kMut, a_kPut2, a_kPut, a_kDPut2, a_kDPut, a_kFldS, a_kMake, a_kLenO, a_runB, a_C, a_Bin, a_Un, a_If, a_tAnd, a_tOr, a_tNot, a_tYes, a_Nil, a_Cons, a_CallB, a_Tup, a_Lst, a_Next, a_Brk, a_Cnt, a_Bad, a_Seq, a_Drop, a_Ret, a_sIf, a_Set, a_SetF, a_Frz, a_For, a_Par, a_AndS, a_OrS, a_Not, a_ChainS, a_Sl, a_oNo, a_oSo, a_iSqS, a_iEnS, a_rNil, a_rCons, a_rDef, a_rIo, a_CallIo, a_Call, a_Raise, a_Var, a_VarB, a_tOf, a_Tgt, a_RetOwn, a_IoIx, a_iRng1, a_iRng2, a_iEn, a_iZp, a_iLst, a_Lc, a_Mut, a_Put, a_DPut, a_FldS, a_Tried, a_Make, a_LenO, a_ForD0, a_getC, a_setC, a_frzR, bind_ok', bind_exc, bind_bad, bind_ite, andS_ok, andS_exc, andS_bad, andS_ite, of_some, of_none, of_ite, sq_nx, sq_ret, sq_brk, sq_cnt, sq_exc, sq_bad, sq_ite, out_ret, out_nxF, out_exc, out_ite, back_ok, back_exc, back_ite, selB_bl, selB_ite, g_N, g_Tt, g_Tl, g_nil, g_cons, dLt_i, dLe_i, dGt_i, dGe_i, dAdd_i, dSub_i, dNeg_i, dIx_l, dIx_t, cLen_l, cLen_t, cList_l, cList_t, cTuple_l, cTuple_t, cMin_i, cMax_i, atI_zero, atI_one, atI_2, atI_3, atI_4, atI_5, atI_nt, atI_lst, dEq_pl, dNe_pl, dEq_bl, dNe_bl, dIsN_non, dIsN_int, dIsN_str, dIsN_lst, dIsN_tup, dIsN_bl, dNotN_non, dNotN_int, dNotN_str, dNotN_lst, dNotN_tup, dNotN_bl, sqS_l, sqS_t, enS_l, enS_t, noIo, isLst, wipeR, isi_list_n, isi_list_b, isi_list_i, isi_list_s, isi_list_l, isi_list_t, isi_tuple_n, isi_tuple_b, isi_tuple_i, isi_tuple_s, isi_tuple_l, isi_tuple_t, isi_bool_n, isi_bool_b, isi_bool_i, isi_bool_s, isi_bool_l, isi_bool_t, isi_int_n, isi_int_b, isi_int_i, isi_int_s, isi_int_l, isi_int_t, isi_str_n, isi_str_b, isi_str_i, isi_str_s, isi_str_l, isi_str_t, List.foldr_cons, List.foldr_nil, List.getElem?_cons_zero, List.getElem?_cons_succ, List.set_cons_zero, List.set_cons_succ, List.length_cons, List.length_nil, List.replicate_succ, List.replicate_zero, List.cons_append, List.nil_append, List.map_cons, List.map_nil, Nat.reduceAdd, Nat.reduceSub, Nat.reduceLeDiff, Nat.reduceLT, sizeLine_val, ite_true, ite_false, if_true, if_false, Bool.false_eq_true, Bool.true_eq_false, decide_eq_true_eq, Bool.not_eq_true', Bool.not_true, Bool.not_false, decide_true, decide_false, decide_eq_false_iff_not, D.int.injEq, D.str.injEq, D.bl.injEq, reduceCtorEq, Int.cast_ofNat_Int, Int.reduceNeg, Int.reducePow, Int.reduceLE, Int.reduceLT, Int.reduceToNat, and_self, Int.reduceEq, Int.reduceNe, Nat.reduceEqDiff, not_false_eq_true, not_true_eq_false, Int.toNat_natCast, List.range_succ, List.range_zero, a_turn, nxP_nx, nxP_cnt, nxP_ite, ↓reduceIte, h1, excO, edge_fault_ok]
    cases he : ef 2 n L with
    | some i => simp only [efD, a_kBin2, a_kBin, a_kUn, a_kIfE, a_kAndT, a_kOrT, a_kNotT, a_kCons2, a_kCons, a_kCallB, a_kTup, a_kLst, a_kDrop, a_kRet, a_kIfS, a_kSet, a_kSetF, a_kFor, a_kPar2, a_kPar, a_kAnd, a_kOr, a_kNot, a_kCh3, a_kCh2, a_kCh1, a_kSl3, a_kSl2, a_kSl1, a_koSo, a_kOfL, a_krC2, a_krC, a_krIo, a_krDef, a_kCall, a_kCallIo, a_kRaise, a_ktOf, a_kTgt, a_kRng1, a_kRng2, a_kEn, a_kZp2, a_kZp, a_kiLst, a_kLc2, a_kLc, a_kMut, a_kPut2, a_kPut, a_kDPut2, a_kDPut, a_kFldS, a_kMake, a_kLenO, a_runB, a_C, a_Bin, a_Un, a_If, a_tAnd, a_tOr, a_tNot, a_tYes, a_Nil, a_Cons, a_CallB, a_Tup, a_Lst, a_Next, a_Brk, a_Cnt, a_Bad, a_Seq, a_Drop, a_Ret, a_sIf, a_Set, a_SetF, a_Frz, a_For, a_Par, a_AndS, a_OrS, a_Not, a_ChainS, a_Sl, a_oNo, a_oSo, a_iSqS, a_iEnS, a_rNil, a_rCons, a_rDef, a_rIo, a_CallIo, a_Call, a_Raise, a_Var, a_VarB, a_tOf, a_Tgt, a_RetOwn, a_IoIx, a_iRng1, a_iRng2, a_iEn, a_iZp, a_iLst, a_Lc, a_Mut, a_Put, a_DPut, a_FldS, a_Tried, a_Make, a_LenO, a_ForD0, a_getC, a_setC, a_frzR, bind_ok', bind_exc, bind_bad, bind_ite, andS_ok, andS_exc, andS_bad, andS_ite, of_some, of_none, of_ite, sq_nx, sq_ret, sq_brk, sq_cnt, sq_exc, sq_bad, sq_ite, out_ret, out_nxF, out_exc, out_ite, back_ok, back_exc, back_ite, selB_bl, selB_ite, g_N, g_Tt, g_Tl, g_nil, g_cons, dLt_i, dLe_i, dGt_i, dGe_i, dAdd_i, dSub_i, dNeg_i, dIx_l, dIx_t, cLen_l, cLen_t, cList_l, cList_t, cTuple_l, cTuple_t, cMin_i, cMax_i, atI_zero, atI_one, atI_2, atI_3, atI_4, atI_5, atI_nt, atI_lst, dEq_pl, dNe_pl, dEq_bl, dNe_bl, dIsN_non, dIsN_int, dIsN_str, dIsN_lst, dIsN_tup, dIsN_bl, dNotN_non, dNotN_int, dNotN_str, dNotN_lst, dNotN_tup, dNotN_bl, sqS_l, sqS_t, enS_l, enS_t, noIo, isLst, wipeR, isi_list_n, isi_list_b, isi_list_i, isi_list_s, isi_list_l, isi_list_t, isi_tuple_n, isi_tuple_b, isi_tuple_i, isi_tuple_s, isi_tuple_l, isi_tuple_t, isi_bool_n, isi_bool_b, isi_bool_i, isi_bool_s, isi_bool_l, isi_bool_t, isi_int_n, isi_int_b, isi_int_i, isi_int_s, isi_int_l, isi_int_t, isi_str_n, isi_str_b, isi_str_i, isi_str_s, isi_str_l, isi_str_t, List.foldr_cons, List.foldr_nil, List.getElem?_cons_zero, List.getElem?_cons_succ, List.set_cons_zero, List.set_cons_succ, List.length_cons, List.length_nil, List.replicate_succ, List.replicate_zero, List.cons_append, List.nil_append, List.map_cons, List.map_nil, Nat.reduceAdd, Nat.reduceSub, Nat.reduceLeDiff, Nat.reduceLT, sizeLine_val, ite_true, ite_false, if_true, if_false, Bool.false_eq_true, Bool.true_eq_false, decide_eq_true_eq, Bool.not_eq_true', Bool.not_true, Bool.not_false, decide_true, decide_false, decide_eq_false_iff_not, D.int.injEq, D.str.injEq, D.bl.injEq, reduceCtorEq, Int.cast_ofNat_Int, Int.reduceNeg, Int.reducePow, Int.reduceLE, Int.reduceLT, Int.reduceToNat, and_self, Int.reduceEq, Int.reduceNe, Nat.reduceEqDiff, not_false_eq_true, not_true_eq_false, Int.toNat_natCast, List.range_succ, List.range_zero, a_turn, nxP_nx, nxP_cnt, nxP_ite, ↓reduceIte, List.getD_cons_zero]
    | none =>
      have h4 : m_sides_left [.fz (.lst (L.map tri)), .fz (.ctup [])] [] = .ok (.tup [.dct false [] [], .dct false [] []]) [] := by
        simp only [m_sides_left, b_sides_left, a_kBin2, a_kBin, a_kUn, a_kIfE, a_kAndT, a_kOrT, a_kNotT, a_kCons2, a_kCons, a_kCallB, a_kTup, a_kLst, a_kDrop, a_kRet, a_kIfS, a_kSet, a_kSetF, a_kFor, a_kPar2, a_kPar, a_kAnd, a_kOr, a_kNot, a_kCh3, a_kCh2, a_kCh1, a_kSl3, a_kSl2, a_kSl1, a_koSo, a_kOfL, a_krC2, a_krC, a_krIo, a_krDef, a_kCall, a_kCallIo, a_kRaise, a_ktOf, a_kTgt, a_kRng1, a_kRng2, a_kEn, a_kZp2, a_kZp, a_kiLst, a_kLc2, a_kLc, a_kMut, a_kPut2, a_kPut, a_kDPut2, a_kDPut, a_kFldS, a_kMake, a_kLenO, a_runB, a_C, a_Bin, a_Un, a_If, a_tAnd, a_tOr, a_tNot, a_tYes, a_Nil, a_Cons, a_CallB, a_Tup, a_Lst, a_Next, a_Brk, a_Cnt, a_Bad, a_Seq, a_Drop, a_Ret, a_sIf, a_Set, a_SetF, a_Frz, a_For, a_Par, a_AndS, a_OrS, a_Not, a_ChainS, a_Sl, a_oNo, a_oSo, a_iSqS, a_iEnS, a_rNil, a_rCons, a_rDef, a_rIo, a_CallIo, a_Call, a_Raise, a_Var, a_VarB, a_tOf, a_Tgt, a_RetOwn, a_IoIx, a_iRng1, a_iRng2, a_iEn, a_iZp, a_iLst, a_Lc, a_Mut, a_Put, a_DPut, a_FldS, a_Tried, a_Make, a_LenO, a_ForD0, a_getC, a_setC, a_frzR, bind_ok', bind_exc, bind_bad, bind_ite, andS_ok, andS_exc, andS_bad, andS_ite, of_some, of_none, of_ite, sq_nx, sq_ret, sq_brk, sq_cnt, sq_exc, sq_bad, sq_ite, out_ret, out_nxF, out_exc, out_ite, back_ok, back_exc, back_ite, selB_bl, selB_ite, g_N, g_Tt, g_Tl, g_nil, g_cons, dLt_i, dLe_i, dGt_i, dGe_i, dAdd_i, dSub_i, dNeg_i, dIx_l, dIx_t, cLen_l, cLen_t, cList_l, cList_t, cTuple_l, cTuple_t, cMin_i, cMax_i, atI_zero, atI_one, atI_2, atI_3, atI_4, atI_5, atI_nt, atI_lst, dEq_pl, dNe_pl, dEq_bl, dNe_bl, dIsN_non, dIsN_int, dIsN_str, dIsN_lst, dIsN_tup, dIsN_bl, dNotN_non, dNotN_int, dNotN_str, dNotN_lst, dNotN_tup, dNotN_bl, sqS_l, sqS_t, enS_l, enS_t, noIo, isLst, wipeR, isi_list_n, isi_list_b, isi_list_i, isi_list_s, isi_list_l, isi_list_t, isi_tuple_n, isi_tuple_b, isi_tuple_i, isi_tuple_s, isi_tuple_l, isi_tuple_t, isi_bool_n, isi_bool_b, isi_bool_i, isi_bool_s, isi_bool_l, isi_bool_t, isi_int_n, isi_int_b, isi_int_i, isi_int_s, isi_int_l, isi_int_t, isi_str_n, isi_str_b, isi_str_i, isi_str_s, isi_str_l, isi_str_t, List.foldr_cons, List.foldr_nil, List.getElem?_cons_zero, List.getElem?_cons_succ, List.set_cons_zero, List.set_cons_succ, List.length_cons, List.length_nil, List.replicate_succ, List.replicate_zero, List.cons_append, List.nil_append, List.map_cons, List.map_nil, Nat.reduceAdd, Nat.reduceSub, Nat.reduceLeDiff, Nat.reduceLT, sizeLine_val, ite_true, ite_false, if_true, if_false, Bool.false_eq_true, Bool.true_eq_false, decide_eq_true_eq, Bool.not_eq_true', Bool.not_true, Bool.not_false, decide_true, decide_false, decide_eq_false_iff_not, D.int.injEq, D.str.injEq, D.bl.injEq, reduceCtorEq, Int.cast_ofNat_Int, Int.reduceNeg, Int.reducePow, Int.reduceLE, Int.reduceLT, Int.reduceToNat, and_self, Int.reduceEq, Int.reduceNe, Nat.reduceEqDiff, not_false_eq_true, not_true_eq_false, Int.toNat_natCast, List.range_succ, List.range_zero, a_turn, nxP_nx, nxP_cnt, nxP_ite, ↓reduceIte, h3, mixed_pairs_ok L hl, hm he, for_nil]
      simp only [efD, a_kBin2, a_kBin, a_kUn, a_kIfE, a_kAndT, a_kOrT, a_kNotT, a_kCons2, a_kCons, a_kCallB, a_kTup, a_kLst, a_kDrop, a_kRet, a_kIfS, a_kSet, a_kSetF, a_kFor, a_kPar2, a_kPar, a_kAnd, a_kOr, a_kNot, a_kCh3, a_kCh2, a_kCh1, a_kSl3, a_kSl2, a_kSl1, a_koSo, a_kOfL, a_krC2, a_krC, a_krIo, a_krDef, a_kCall, a_kCallIo, a_kRaise, a_ktOf, a_kTgt, a_kRng1, a_kRng2, a_kEn, a_kZp2, a_kZp, a_kiLst, a_kLc2, a_kLc, a_kMut, a_kPut2, a_kPut, a_kDPut2, a_kDPut, a_kFldS, a_kMake, a_kLenO, a_runB, a_C, a_Bin, a_Un, a_If, a_tAnd, a_tOr, a_tNot, a_tYes, a_Nil, a_Cons, a_CallB, a_Tup, a_Lst, a_Next, a_Brk, a_Cnt, a_Bad, a_Seq, a_Drop, a_Ret, a_sIf, a_Set, a_SetF, a_Frz, a_For, a_Par, a_AndS, a_OrS, a_Not, a_ChainS, a_Sl, a_oNo, a_oSo, a_iSqS, a_iEnS, a_rNil, a_rCons, a_rDef, a_rIo, a_CallIo, a_Call, a_Raise, a_Var, a_VarB, a_tOf, a_Tgt, a_RetOwn, a_IoIx, a_iRng1, a_iRng2, a_iEn, a_iZp, a_iLst, a_Lc, a_Mut, a_Put, a_DPut, a_FldS, a_Tried, a_Make, a_LenO, a_ForD0, a_getC, a_setC, a_frzR, bind_ok', bind_exc, bind_bad, bind_ite, andS_ok, andS_exc, andS_bad, andS_ite, of_some, of_none, of_ite, sq_nx, sq_ret, sq_brk, sq_cnt, sq_exc, sq_bad, sq_ite, out_ret, out_nxF, out_exc, out_ite, back_ok, back_exc, back_ite, selB_bl, selB_ite, g_N, g_Tt, g_Tl, g_nil, g_cons, dLt_i, dLe_i, dGt_i, dGe_i, dAdd_i, dSub_i, dNeg_i, dIx_l, dIx_t, cLen_l, cLen_t, cList_l, cList_t, cTuple_l, cTuple_t, cMin_i, cMax_i, atI_zero, atI_one, atI_2, atI_3, atI_4, atI_5, atI_nt, atI_lst, dEq_pl, dNe_pl, dEq_bl, dNe_bl, dIsN_non, dIsN_int, dIsN_str, dIsN_lst, dIsN_tup, dIsN_bl, dNotN_non, dNotN_int, dNotN_str, dNotN_lst, dNotN_tup, dNotN_bl, sqS_l, sqS_t, enS_l, enS_t, noIo, isLst, wipeR, isi_list_n, isi_list_b, isi_list_i, isi_list_s, isi_list_l, isi_list_t, isi_tuple_n, isi_tuple_b, isi_tuple_i, isi_tuple_s, isi_tuple_l, isi_tuple_t, isi_bool_n, isi_bool_b, isi_bool_i, isi_bool_s, isi_bool_l, isi_bool_t, isi_int_n, isi_int_b, isi_int_i, isi_int_s, isi_int_l, isi_int_t, isi_str_n, isi_str_b, isi_str_i, isi_str_s, isi_str_l, isi_str_t, List.foldr_cons, List.foldr_nil, List.getElem?_cons_zero, List.getElem?_cons_succ, List.set_cons_zero, List.set_cons_succ, List.length_cons, List.length_nil, List.replicate_succ, List.replicate_zero, List.cons_append, List.nil_append, List.map_cons, List.map_nil, Nat.reduceAdd, Nat.reduceSub, Nat.reduceLeDiff, Nat.reduceLT, sizeLine_val, ite_true, ite_false, if_true, if_false, Bool.false_eq_true, Bool.true_eq_false, decide_eq_true_eq, Bool.not_eq_true', Bool.not_true, Bool.not_false, decide_true, decide_false, decide_eq_false_iff_not, D.int.injEq, D.str.injEq, D.bl.injEq, reduceCtorEq, Int.cast_ofNat_Int, Int.reduceNeg, Int.reducePow, Int.reduceLE, Int.reduceLT, Int.reduceToNat, and_self, Int.reduceEq, Int.reduceNe, Nat.reduceEqDiff, not_false_eq_true, not_true_eq_false, Int.toNat_natCast, List.range_succ, List.range_zero, a_turn, nxP_nx, nxP_cnt, nxP_ite, ↓reduceIte, h2, h4, lcL, sqS, cListD0, cSort, intsOf, Option.map_some, sortI, for_nil, (show dAdd (.lst []) (.lst []) = some (.lst []) from rfl), List.map_nil]
end K03
set_option maxHeartbeats 400000
namespace Hw
open PySem PySem.Spec L2
/-- data that may be compared item by item: depth at most n -/
def alB : Nat → D → Bool
  | _, .non => true
  | _, .bl _ => true
  | _, .int _ => true
  | _, .str x => PyData.strOk x
  | n + 1, .lst ds => ds.all (alB n) && decide (ds.length ≤ 16777216)
  | n + 1, .tup ds => ds.all (alB n) && decide (ds.length ≤ 16777216)
  | _, _ => false
class Aln (n : Nat) (d : D) : Prop where
  ok : alB n d = true
class AlnL (n : Nat) (ds : List D) : Prop where
  ok : ds.all (alB n) = true
section
variable {n : Nat} {d : D} {ds es : List D}
instance : Aln n .non := ⟨by cases n <;> rfl⟩
instance {i : Int} : Aln n (.int i) := ⟨by cases n <;> rfl⟩
instance {i : Bool} : Aln n (.bl i) := ⟨by cases n <;> rfl⟩
instance {x : Str} [h : StrOk x] : Aln n (.str x) := ⟨by cases n <;> exact h.ok⟩
instance : AlnL n [] := ⟨rfl⟩
instance [h : Aln n d] [g : AlnL n ds] : AlnL n (d :: ds) := ⟨by rw [List.all_cons, h.ok, g.ok]; rfl⟩
instance [h : AlnL n ds] [g : AlnL n es] : AlnL n (ds ++ es) := ⟨by rw [List.all_append, h.ok, g.ok]; rfl⟩
instance {α : Type} {f : α → D} {xs : List α} [h : ∀ x, Aln n (f x)] : AlnL n (xs.map f) := ⟨by
  rw [List.all_map]
  exact List.all_eq_true.mpr fun x _ => (h x).ok⟩
theorem aln_tup [h : AlnL n ds] (hl : ds.length ≤ 16777216) : Aln (n + 1) (.tup ds) := ⟨by unfold alB; rw [h.ok, decide_eq_true hl]; rfl⟩
theorem aln_lst [h : AlnL n ds] (hl : ds.length ≤ 16777216) : Aln (n + 1) (.lst ds) := ⟨by unfold alB; rw [h.ok, decide_eq_true hl]; rfl⟩
instance [h : Aln n d] : Aln (n + 1) (.tup [d]) := aln_tup (Nat.le_trans (show 1 ≤ 3 by decide) (by decide))
instance {d1 d2 : D} [h : Aln n d1] [g : Aln n d2] : Aln (n + 1) (.tup [d1, d2]) := aln_tup (Nat.le_trans (show 2 ≤ 3 by decide) (by decide))
instance {d1 d2 d3 : D} [h : Aln n d1] [g : Aln n d2] [g3 : Aln n d3] : Aln (n + 1) (.tup [d1, d2, d3]) := aln_tup (Nat.le_trans (show 3 ≤ 3 by decide) (by decide))
instance {d1 d2 d3 d4 : D} [h : Aln n d1] [g : Aln n d2] [g3 : Aln n d3] [g4 : Aln n d4] : Aln (n + 1) (.tup [d1, d2, d3, d4]) := aln_tup (Nat.le_trans (show 4 ≤ 4 by decide) (by decide))
instance : Aln (n + 1) (.tup []) := aln_tup (by decide)
instance : Aln (n + 1) (.lst []) := aln_lst (by decide)
instance [h : Aln n d] : Aln (n + 1) (.lst [d]) := aln_lst (Nat.le_trans (show 1 ≤ 3 by decide) (by decide))
instance {d1 d2 : D} [h : Aln n d1] [g : Aln n d2] : Aln (n + 1) (.lst [d1, d2]) := aln_lst (Nat.le_trans (show 2 ≤ 3 by decide) (by decide))
instance {d1 d2 d3 : D} [h : Aln n d1] [g : Aln n d2] [g3 : Aln n d3] : Aln (n + 1) (.lst [d1, d2, d3]) := aln_lst (Nat.le_trans (show 3 ≤ 3 by decide) (by decide))
end
theorem all_range_eq {α : Type} [DecidableEq α] (ds es : List α) (h : ds.length = es.length) : ((List.range es.length).all fun k => decide (ds[k]? = es[k]?)) = decide (ds = es) := by
  rw [Bool.eq_iff_iff, List.all_eq_true, decide_eq_true_iff]
  constructor
  · intro g
    apply List.ext_getElem?
    intro k
    by_cases hk : k < es.length
    · exact of_decide_eq_true (g k (List.mem_range.mpr hk))
    · rw [List.getElem?_eq_none (by omega), List.getElem?_eq_none (by omega)]
  · rintro rfl k _
    exact decide_eq_true rfl
end Hw
namespace K03
open PySem PySem.Spec L2 Hw
theorem alike_flat (n : Nat) (d e : D) (h : alB 0 d = true) (g : alB 0 e = true) : m_l_alike (n + 1) [.fz d, .fz e] [] = .ok (.bl (decide (d = e))) [] := by
  cases d <;> first | (cases h; done) | (cases e <;> first | (cases g; done) | skip)
  all_goals first | (simp only [m_l_alike, b_l_alike, a_kBin2, a_kBin, a_kUn, a_kIfE, a_kAndT, a_kOrT, a_kNotT, a_kCons2, a_kCons, a_kCallB, a_kTup, a_kLst, a_kDrop, a_kRet, a_kIfS, a_kSet, a_kSetF, a_kFor, a_kPar2, a_kPar, a_kAnd, a_kOr, a_kNot, a_kCh3, a_kCh2, a_kCh1, a_kSl3, a_kSl2, a_kSl1, a_koSo, a_kOfL, a_krC2, a_krC, a_krIo, a_krDef, a_kCall, a_kCallIo, a_kRaise, a_ktOf, a_kTgt, a_kRng1, a_kRng2, a_kEn, a_kZp2, a_kZp, a_kiLst, a_kLc2, a_kLc, a_kMut, a_kPut2, a_kPut, a_kDPut2, a_kDPut, a_kFldS, a_kMake, a_kLenO, a_runB, a_C, a_Bin, a_Un, a_If, a_tAnd, a_tOr, a_tNot, a_tYes, a_Nil, a_Cons, a_CallB, a_Tup, a_Lst, a_Next, a_Brk, a_Cnt, a_Bad, a_Seq, a_Drop, a_Ret, a_sIf, a_Set, a_SetF, a_Frz, a_For, a_Par, a_AndS, a_OrS, a_Not, a_ChainS, a_Sl, a_oNo, a_oSo, a_iSqS, a_iEnS, a_rNil, a_rCons, a_rDef, a_rIo, a_CallIo, a_Call, a_Raise, a_Var, a_VarB, a_tOf, a_Tgt, a_RetOwn, a_IoIx, a_iRng1, a_iRng2, a_iEn, a_iZp, a_iLst, a_Lc, a_Mut, a_Put, a_DPut, a_FldS, a_Tried, a_Make, a_LenO, a_ForD0, a_getC, a_setC, a_frzR, bind_ok', bind_exc, bind_bad, bind_ite, andS_ok, andS_exc, andS_bad, andS_ite, of_some, of_none, of_ite, sq_nx, sq_ret, sq_brk, sq_cnt, sq_exc, sq_bad, sq_ite, out_ret, out_nxF, out_exc, out_ite, back_ok, back_exc, back_ite, selB_bl, selB_ite, g_N, g_Tt, g_Tl, g_nil, g_cons, dLt_i, dLe_i, dGt_i, dGe_i, dAdd_i, dSub_i, dNeg_i, dIx_l, dIx_t, cLen_l, cLen_t, cList_l, cList_t, cTuple_l, cTuple_t, cMin_i, cMax_i, atI_zero, atI_one, atI_2, atI_3, atI_4, atI_5, atI_nt, atI_lst, dEq_pl, dNe_pl, dEq_bl, dNe_bl, dIsN_non, dIsN_int, dIsN_str, dIsN_lst, dIsN_tup, dIsN_bl, dNotN_non, dNotN_int, dNotN_str, dNotN_lst, dNotN_tup, dNotN_bl, sqS_l, sqS_t, enS_l, enS_t, noIo, isLst, wipeR, isi_list_n, isi_list_b, isi_list_i, isi_list_s, isi_list_l, isi_list_t, isi_tuple_n, isi_tuple_b, isi_tuple_i, isi_tuple_s, isi_tuple_l, isi_tuple_t, isi_bool_n, isi_bool_b, isi_bool_i, isi_bool_s, isi_bool_l, isi_bool_t, isi_int_n, isi_int_b, isi_int_i, isi_int_s, isi_int_l, isi_int_t, isi_str_n, isi_str_b, isi_str_i, isi_str_s, isi_str_l, isi_str_t, List.foldr_cons, List.foldr_nil, List.getElem?_cons_zero, List.getElem?_cons_succ, List.set_cons_zero, List.set_cons_succ, List.length_cons, List.length_nil, List.replicate_succ, List.replicate_zero, List.cons_append, List.nil_append, List.map_cons, List.map_nil, Nat.reduceAdd, Nat.reduceSub, Nat.reduceLeDiff, Nat.reduceLT, sizeLine_val, ite_true, ite_false, if_true, if_false, Bool.false_eq_true, Bool.true_eq_false, decide_eq_true_eq, Bool.not_eq_true', Bool.not_true, Bool.not_false, decide_true, decide_false, decide_eq_false_iff_not, D.int.injEq, D.str.injEq, D.bl.injEq, reduceCtorEq, Int.cast_ofNat_Int, Int.reduceNeg, Int.reducePow, Int.reduceLE, Int.reduceLT, Int.reduceToNat, and_self, Int.reduceEq, Int.reduceNe, Nat.reduceEqDiff, not_false_eq_true, not_true_eq_false, Int.toNat_natCast, List.range_succ, List.range_zero, a_turn, nxP_nx, nxP_cnt, nxP_ite, ↓reduceIte, Bool.beq_eq_decide_eq]; done) | skip
  all_goals first | (simp only [m_l_alike, b_l_alike, a_kBin2, a_kBin, a_kUn, a_kIfE, a_kAndT, a_kOrT, a_kNotT, a_kCons2, a_kCons, a_kCallB, a_kTup, a_kLst, a_kDrop, a_kRet, a_kIfS, a_kSet, a_kSetF, a_kFor, a_kPar2, a_kPar, a_kAnd, a_kOr, a_kNot, a_kCh3, a_kCh2, a_kCh1, a_kSl3, a_kSl2, a_kSl1, a_koSo, a_kOfL, a_krC2, a_krC, a_krIo, a_krDef, a_kCall, a_kCallIo, a_kRaise, a_ktOf, a_kTgt, a_kRng1, a_kRng2, a_kEn, a_kZp2, a_kZp, a_kiLst, a_kLc2, a_kLc, a_kMut, a_kPut2, a_kPut, a_kDPut2, a_kDPut, a_kFldS, a_kMake, a_kLenO, a_runB, a_C, a_Bin, a_Un, a_If, a_tAnd, a_tOr, a_tNot, a_tYes, a_Nil, a_Cons, a_CallB, a_Tup, a_Lst, a_Next, a_Brk, a_Cnt, a_Bad, a_Seq, a_Drop, a_Ret, a_sIf, a_Set, a_SetF, a_Frz, a_For, a_Par, a_AndS, a_OrS, a_Not, a_ChainS, a_Sl, a_oNo, a_oSo, a_iSqS, a_iEnS, a_rNil, a_rCons, a_rDef, a_rIo, a_CallIo, a_Call, a_Raise, a_Var, a_VarB, a_tOf, a_Tgt, a_RetOwn, a_IoIx, a_iRng1, a_iRng2, a_iEn, a_iZp, a_iLst, a_Lc, a_Mut, a_Put, a_DPut, a_FldS, a_Tried, a_Make, a_LenO, a_ForD0, a_getC, a_setC, a_frzR, bind_ok', bind_exc, bind_bad, bind_ite, andS_ok, andS_exc, andS_bad, andS_ite, of_some, of_none, of_ite, sq_nx, sq_ret, sq_brk, sq_cnt, sq_exc, sq_bad, sq_ite, out_ret, out_nxF, out_exc, out_ite, back_ok, back_exc, back_ite, selB_bl, selB_ite, g_N, g_Tt, g_Tl, g_nil, g_cons, dLt_i, dLe_i, dGt_i, dGe_i, dAdd_i, dSub_i, dNeg_i, dIx_l, dIx_t, cLen_l, cLen_t, cList_l, cList_t, cTuple_l, cTuple_t, cMin_i, cMax_i, atI_zero, atI_one, atI_2, atI_3, atI_4, atI_5, atI_nt, atI_lst, dEq_pl, dNe_pl, dEq_bl, dNe_bl, dIsN_non, dIsN_int, dIsN_str, dIsN_lst, dIsN_tup, dIsN_bl, dNotN_non, dNotN_int, dNotN_str, dNotN_lst, dNotN_tup, dNotN_bl, sqS_l, sqS_t, enS_l, enS_t, noIo, isLst, wipeR, isi_list_n, isi_list_b, isi_list_i, isi_list_s, isi_list_l, isi_list_t, isi_tuple_n, isi_tuple_b, isi_tuple_i, isi_tuple_s, isi_tuple_l, isi_tuple_t, isi_bool_n, isi_bool_b, isi_bool_i, isi_bool_s, isi_bool_l, isi_bool_t, isi_int_n, isi_int_b, isi_int_i, isi_int_s, isi_int_l, isi_int_t, isi_str_n, isi_str_b, isi_str_i, isi_str_s, isi_str_l, isi_str_t, List.foldr_cons, List.foldr_nil, List.getElem?_cons_zero, List.getElem?_cons_succ, List.set_cons_zero, List.set_cons_succ, List.length_cons, List.length_nil, List.replicate_succ, List.replicate_zero, List.cons_append, List.nil_append, List.map_cons, List.map_nil, Nat.reduceAdd, Nat.reduceSub, Nat.reduceLeDiff, Nat.reduceLT, sizeLine_val, ite_true, ite_false, if_true, if_false, Bool.false_eq_true, Bool.true_eq_false, decide_eq_true_eq, Bool.not_eq_true', Bool.not_true, Bool.not_false, decide_true, decide_false, decide_eq_false_iff_not, D.int.injEq, D.str.injEq, D.bl.injEq, reduceCtorEq, Int.cast_ofNat_Int, Int.reduceNeg, Int.reducePow, Int.reduceLE, Int.reduceLT, Int.reduceToNat, and_self, Int.reduceEq, Int.reduceNe, Nat.reduceEqDiff, not_false_eq_true, not_true_eq_false, Int.toNat_natCast, List.range_succ, List.range_zero, a_turn, nxP_nx, nxP_cnt, nxP_ite, ↓reduceIte, Bool.beq_eq_decide_eq, beq_self_eq_true]; done) | skip
  all_goals
    rename_i x y
    haveI : StrOk x := ⟨h⟩
    haveI : StrOk y := ⟨g⟩
    simp only [m_l_alike, b_l_alike, a_kBin2, a_kBin, a_kUn, a_kIfE, a_kAndT, a_kOrT, a_kNotT, a_kCons2, a_kCons, a_kCallB, a_kTup, a_kLst, a_kDrop, a_kRet, a_kIfS, a_kSet, a_kSetF, a_kFor, a_kPar2, a_kPar, a_kAnd, a_kOr, a_kNot, a_kCh3, a_kCh2, a_kCh1, a_kSl3, a_kSl2, a_kSl1, a_koSo, a_kOfL, a_krC2, a_krC, a_krIo, a_krDef, a_kCall, a_kCallIo, a_kRaise, a_ktOf, a_kTgt, a_kRng1, a_kRng2, a_kEn, a_kZp2, a_kZp, a_kiLst, a_kLc2, a_kLc, a_kMut, a_kPut2, a_kPut, a_kDPut2, a_kDPut, a_kFldS, a_kMake, a_kLenO, a_runB, a_C, a_Bin, a_Un, a_If, a_tAnd, a_tOr, a_tNot, a_tYes, a_Nil, a_Cons, a_CallB, a_Tup, a_Lst, a_Next, a_Brk, a_Cnt, a_Bad, a_Seq, a_Drop, a_Ret, a_sIf, a_Set, a_SetF, a_Frz, a_For, a_Par, a_AndS, a_OrS, a_Not, a_ChainS, a_Sl, a_oNo, a_oSo, a_iSqS, a_iEnS, a_rNil, a_rCons, a_rDef, a_rIo, a_CallIo, a_Call, a_Raise, a_Var, a_VarB, a_tOf, a_Tgt, a_RetOwn, a_IoIx, a_iRng1, a_iRng2, a_iEn, a_iZp, a_iLst, a_Lc, a_Mut, a_Put, a_DPut, a_FldS, a_Tried, a_Make, a_LenO, a_ForD0, a_getC, a_setC, a_frzR, bind_ok', bind_exc, bind_bad, bind_ite, andS_ok, andS_exc, andS_bad, andS_ite, of_some, of_none, of_ite, sq_nx, sq_ret, sq_brk, sq_cnt, sq_exc, sq_bad, sq_ite, out_ret, out_nxF, out_exc, out_ite, back_ok, back_exc, back_ite, selB_bl, selB_ite, g_N, g_Tt, g_Tl, g_nil, g_cons, dLt_i, dLe_i, dGt_i, dGe_i, dAdd_i, dSub_i, dNeg_i, dIx_l, dIx_t, cLen_l, cLen_t, cList_l, cList_t, cTuple_l, cTuple_t, cMin_i, cMax_i, atI_zero, atI_one, atI_2, atI_3, atI_4, atI_5, atI_nt, atI_lst, dEq_pl, dNe_pl, dEq_bl, dNe_bl, dIsN_non, dIsN_int, dIsN_str, dIsN_lst, dIsN_tup, dIsN_bl, dNotN_non, dNotN_int, dNotN_str, dNotN_lst, dNotN_tup, dNotN_bl, sqS_l, sqS_t, enS_l, enS_t, noIo, isLst, wipeR, isi_list_n, isi_list_b, isi_list_i, isi_list_s, isi_list_l, isi_list_t, isi_tuple_n, isi_tuple_b, isi_tuple_i, isi_tuple_s, isi_tuple_l, isi_tuple_t, isi_bool_n, isi_bool_b, isi_bool_i, isi_bool_s, isi_bool_l, isi_bool_t, isi_int_n, isi_int_b, isi_int_i, isi_int_s, isi_int_l, isi_int_t, isi_str_n, isi_str_b, isi_str_i, isi_str_s, isi_str_l, isi_str_t, List.foldr_cons, List.foldr_nil, List.getElem?_cons_zero, List.getElem?_cons_succ, List.set_cons_zero, List.set_cons_succ, List.length_cons, List.length_nil, List.replicate_succ, List.replicate_zero, List.cons_append, List.nil_append, List.map_cons, List.map_nil, Nat.reduceAdd, Nat.reduceSub, Nat.reduceLeDiff, Nat.reduceLT, sizeLine_val, ite_true, ite_false, if_true, if_false, Bool.false_eq_true, Bool.true_eq_false, decide_eq_true_eq, Bool.not_eq_true', Bool.not_true, Bool.not_false, decide_true, decide_false, decide_eq_false_iff_not, D.int.injEq, D.str.injEq, D.bl.injEq, reduceCtorEq, Int.cast_ofNat_Int, Int.reduceNeg, Int.reducePow, Int.reduceLE, Int.reduceLT, Int.reduceToNat, and_self, Int.reduceEq, Int.reduceNe, Nat.reduceEqDiff, not_false_eq_true, not_true_eq_false, Int.toNat_natCast, List.range_succ, List.range_zero, a_turn, nxP_nx, nxP_cnt, nxP_ite, ↓reduceIte, Bool.beq_eq_decide_eq, beq_self_eq_true]
theorem alike_seq (n : Nat) (ds es : List D) (hd : ds.length ≤ 16777216) (he : es.length ≤ 16777216) (ih : ∀ d ∈ ds, ∀ e ∈ es, m_l_alike n [.fz d, .fz e] [] = .ok (.bl (decide (d = e))) []) :
    m_l_alike (n + 1) [.fz (.lst ds), .fz (.lst es)] [] = .ok (.bl (decide (ds = es))) [] ∧ m_l_alike (n + 1) [.fz (.tup ds), .fz (.tup es)] [] = .ok (.bl (decide (ds = es))) [] := by
  by_cases hl : ds.length = es.length
  · have key : ∀ (x y : D), (∀ i : Nat, dIx x (.int i) = ds[i]?) → (∀ i : Nat, dIx y (.int i) = es[i]?) → lcL (gN 2) tYes (eCall (m_l_alike n) (rCons (eBin dIx (eVarB 0) (eVarB 2)) (rCons (eBin dIx (eVarB 1) (eVarB 2)) rNil))) [.fz x, .fz y, .no] ((List.range es.length).map fun (n : Nat) => D.int n) [] = .ok ((List.range es.length).map fun k => .bl (decide (ds[k]? = es[k]?))) [] := by
      intro x y hx hy
      refine lc_map (fun k => .bl (decide (ds[k]? = es[k]?))) fun k hk => ⟨_, rfl, ?_⟩
      have hk' : k < es.length := List.mem_range.mp hk
      have h1 := List.getElem?_eq_getElem (l := ds) (i := k) (by omega)
      have h2 := List.getElem?_eq_getElem (l := es) (i := k) hk'
      simp only [a_kBin2, a_kBin, a_kUn, a_kIfE, a_kAndT, a_kOrT, a_kNotT, a_kCons2, a_kCons, a_kCallB, a_kTup, a_kLst, a_kDrop, a_kRet, a_kIfS, a_kSet, a_kSetF, a_kFor, a_kPar2, a_kPar, a_kAnd, a_kOr, a_kNot, a_kCh3, a_kCh2, a_kCh1, a_kSl3, a_kSl2, a_kSl1, a_koSo, a_kOfL, a_krC2, a_krC, a_krIo, a_krDef, a_kCall, a_kCallIo, a_kRaise, a_ktOf, a_kTgt, a_kRng1, a_kRng2, a_kEn, a_kZp2, a_kZp, a_kiLst, a_kLc2, a_kLc, a_kMut, a_kPut2, a_kPut, a_kDPut2, a_kDPut, a_kFldS, a_kMake, a_kLenO, a_runB, a_C, a_Bin, a_Un, a_If, a_tAnd, a_tOr, a_tNot, a_tYes, a_Nil, a_Cons, a_CallB, a_Tup, a_Lst, a_Next, a_Brk, a_Cnt, a_Bad, a_Seq, a_Drop, a_Ret, a_sIf, a_Set, a_SetF, a_Frz, a_For, a_Par, a_AndS, a_OrS, a_Not, a_ChainS, a_Sl, a_oNo, a_oSo, a_iSqS, a_iEnS, a_rNil, a_rCons, a_rDef, a_rIo, a_CallIo, a_Call, a_Raise, a_Var, a_VarB, a_tOf, a_Tgt, a_RetOwn, a_IoIx, a_iRng1, a_iRng2, a_iEn, a_iZp, a_iLst, a_Lc, a_Mut, a_Put, a_DPut, a_FldS, a_Tried, a_Make, a_LenO, a_ForD0, a_getC, a_setC, a_frzR, bind_ok', bind_exc, bind_bad, bind_ite, andS_ok, andS_exc, andS_bad, andS_ite, of_some, of_none, of_ite, sq_nx, sq_ret, sq_brk, sq_cnt, sq_exc, sq_bad, sq_ite, out_ret, out_nxF, out_exc, out_ite, back_ok, back_exc, back_ite, selB_bl, selB_ite, g_N, g_Tt, g_Tl, g_nil, g_cons, dLt_i, dLe_i, dGt_i, dGe_i, dAdd_i, dSub_i, dNeg_i, dIx_l, dIx_t, cLen_l, cLen_t, cList_l, cList_t, cTuple_l, cTuple_t, cMin_i, cMax_i, atI_zero, atI_one, atI_2, atI_3, atI_4, atI_5, atI_nt, atI_lst, dEq_pl, dNe_pl, dEq_bl, dNe_bl, dIsN_non, dIsN_int, dIsN_str, dIsN_lst, dIsN_tup, dIsN_bl, dNotN_non, dNotN_int, dNotN_str, dNotN_lst, dNotN_tup, dNotN_bl, sqS_l, sqS_t, enS_l, enS_t, noIo, isLst, wipeR, isi_list_n, isi_list_b, isi_list_i, isi_list_s, isi_list_l, isi_list_t, isi_tuple_n, isi_tuple_b, isi_tuple_i, isi_tuple_s, isi_tuple_l, isi_tuple_t, isi_bool_n, isi_bool_b, isi_bool_i, isi_bool_s, isi_bool_l, isi_bool_t, isi_int_n, isi_int_b, isi_int_i, isi_int_s, isi_int_l, isi_int_t, isi_str_n, isi_str_b, isi_str_i, isi_str_s, isi_str_l, isi_str_t, List.foldr_cons, List.foldr_nil, List.getElem?_cons_zero, List.getElem?_cons_succ, List.set_cons_zero, List.set_cons_succ, List.length_cons, List.length_nil, List.replicate_succ, List.replicate_zero, List.cons_append, List.nil_append, List.map_cons, List.map_nil, Nat.reduceAdd, Nat.reduceSub, Nat.reduceLeDiff, Nat.reduceLT, sizeLine_val, ite_true, ite_false, if_true, if_false, Bool.false_eq_true, Bool.true_eq_false, decide_eq_true_eq, Bool.not_eq_true', Bool.not_true, Bool.not_false, decide_true, decide_false, decide_eq_false_iff_not, D.int.injEq, D.str.injEq, D.bl.injEq, reduceCtorEq, Int.cast_ofNat_Int, Int.reduceNeg, Int.reducePow, Int.reduceLE, Int.reduceLT, Int.reduceToNat, and_self, Int.reduceEq, Int.reduceNe, Nat.reduceEqDiff, not_false_eq_true, not_true_eq_false, Int.toNat_natCast, List.range_succ, List.range_zero, a_turn, nxP_nx, nxP_cnt, nxP_ite, ↓reduceIte, hx, hy, h1, h2, ih _ (List.getElem_mem _) _ (List.getElem_mem _), Option.some.injEq]
    have kl := key (.lst ds) (.lst es) (fun i => atI_nt i) (fun i => atI_nt i)
    have kt := key (.tup ds) (.tup es) (fun i => atI_nt i) (fun i => atI_nt i)
    constructor
    · simp (disch := omega) only [m_l_alike, b_l_alike, a_kBin2, a_kBin, a_kUn, a_kIfE, a_kAndT, a_kOrT, a_kNotT, a_kCons2, a_kCons, a_kCallB, a_kTup, a_kLst, a_kDrop, a_kRet, a_kIfS, a_kSet, a_kSetF, a_kFor, a_kPar2, a_kPar, a_kAnd, a_kOr, a_kNot, a_kCh3, a_kCh2, a_kCh1, a_kSl3, a_kSl2, a_kSl1, a_koSo, a_kOfL, a_krC2, a_krC, a_krIo, a_krDef, a_kCall, a_kCallIo, a_kRaise, a_ktOf, a_kTgt, a_kRng1, a_kRng2, a_kEn, a_kZp2, a_kZp, a_kiLst, a_kLc2, a_kLc, a_kMut, a_kPut2, a_kPut, a_kDPut2, a_kDPut, a_kFldS, a_kMake, a_kLenO, a_runB, a_C, a_Bin, a_Un, a_If, a_tAnd, a_tOr, a_tNot, a_tYes, a_Nil, a_Cons, a_CallB, a_Tup, a_Lst, a_Next, a_Brk, a_Cnt, a_Bad, a_Seq, a_Drop, a_Ret, a_sIf, a_Set, a_SetF, a_Frz, a_For, a_Par, a_AndS, a_OrS, a_Not, a_ChainS, a_Sl, a_oNo, a_oSo, a_iSqS, a_iEnS, a_rNil, a_rCons, a_rDef, a_rIo, a_CallIo, a_Call, a_Raise, a_Var, a_VarB, a_tOf, a_Tgt, a_RetOwn, a_IoIx, a_iRng1, a_iRng2, a_iEn, a_iZp, a_iLst, a_Lc, a_Mut, a_Put, a_DPut, a_FldS, a_Tried, a_Make, a_LenO, a_ForD0, a_getC, a_setC, a_frzR, bind_ok', bind_exc, bind_bad, bind_ite, andS_ok, andS_exc, andS_bad, andS_ite, of_some, of_none, of_ite, sq_nx, sq_ret, sq_brk, sq_cnt, sq_exc, sq_bad, sq_ite, out_ret, out_nxF, out_exc, out_ite, back_ok, back_exc, back_ite, selB_bl, selB_ite, g_N, g_Tt, g_Tl, g_nil, g_cons, dLt_i, dLe_i, dGt_i, dGe_i, dAdd_i, dSub_i, dNeg_i, dIx_l, dIx_t, cLen_l, cLen_t, cList_l, cList_t, cTuple_l, cTuple_t, cMin_i, cMax_i, atI_zero, atI_one, atI_2, atI_3, atI_4, atI_5, atI_nt, atI_lst, dEq_pl, dNe_pl, dEq_bl, dNe_bl, dIsN_non, dIsN_int, dIsN_str, dIsN_lst, dIsN_tup, dIsN_bl, dNotN_non, dNotN_int, dNotN_str, dNotN_lst, dNotN_tup, dNotN_bl, sqS_l, sqS_t, enS_l, enS_t, noIo, isLst, wipeR, isi_list_n, isi_list_b, isi_list_i, isi_list_s, isi_list_l, isi_list_t, isi_tuple_n, isi_tuple_b, isi_tuple_i, isi_tuple_s, isi_tuple_l, isi_tuple_t, isi_bool_n, isi_bool_b, isi_bool_i, isi_bool_s, isi_bool_l, isi_bool_t, isi_int_n, isi_int_b, isi_int_i, isi_int_s, isi_int_l, isi_int_t, isi_str_n, isi_str_b, isi_str_i, isi_str_s, isi_str_l, isi_str_t, List.foldr_cons, List.foldr_nil, List.getElem?_cons_zero, List.getElem?_cons_succ, List.set_cons_zero, List.set_cons_succ, List.length_cons, List.length_nil, List.replicate_succ, List.replicate_zero, List.cons_append, List.nil_append, List.map_cons, List.map_nil, Nat.reduceAdd, Nat.reduceSub, Nat.reduceLeDiff, Nat.reduceLT, sizeLine_val, ite_true, ite_false, if_true, if_false, Bool.false_eq_true, Bool.true_eq_false, decide_eq_true_eq, Bool.not_eq_true', Bool.not_true, Bool.not_false, decide_true, decide_false, decide_eq_false_iff_not, D.int.injEq, D.str.injEq, D.bl.injEq, reduceCtorEq, Int.cast_ofNat_Int, Int.reduceNeg, Int.reducePow, Int.reduceLE, Int.reduceLT, Int.reduceToNat, and_self, Int.reduceEq, Int.reduceNe, Nat.reduceEqDiff, not_false_eq_true, not_true_eq_false, Int.toNat_natCast, List.range_succ, List.range_zero, a_turn, nxP_nx, nxP_cnt, nxP_ite, ↓reduceIte, Bool.beq_eq_decide_eq, beq_self_eq_true, hl, rng_if, kl, List.length_map, List.length_range, he, cAll_map, all_range_eq _ _ hl]
    · simp (disch := omega) only [m_l_alike, b_l_alike, a_kBin2, a_kBin, a_kUn, a_kIfE, a_kAndT, a_kOrT, a_kNotT, a_kCons2, a_kCons, a_kCallB, a_kTup, a_kLst, a_kDrop, a_kRet, a_kIfS, a_kSet, a_kSetF, a_kFor, a_kPar2, a_kPar, a_kAnd, a_kOr, a_kNot, a_kCh3, a_kCh2, a_kCh1, a_kSl3, a_kSl2, a_kSl1, a_koSo, a_kOfL, a_krC2, a_krC, a_krIo, a_krDef, a_kCall, a_kCallIo, a_kRaise, a_ktOf, a_kTgt, a_kRng1, a_kRng2, a_kEn, a_kZp2, a_kZp, a_kiLst, a_kLc2, a_kLc, a_kMut, a_kPut2, a_kPut, a_kDPut2, a_kDPut, a_kFldS, a_kMake, a_kLenO, a_runB, a_C, a_Bin, a_Un, a_If, a_tAnd, a_tOr, a_tNot, a_tYes, a_Nil, a_Cons, a_CallB, a_Tup, a_Lst, a_Next, a_Brk, a_Cnt, a_Bad, a_Seq, a_Drop, a_Ret, a_sIf, a_Set, a_SetF, a_Frz, a_For, a_Par, a_AndS, a_OrS, a_Not, a_ChainS, a_Sl, a_oNo, a_oSo, a_iSqS, a_iEnS, a_rNil, a_rCons, a_rDef, a_rIo, a_CallIo, a_Call, a_Raise, a_Var, a_VarB, a_tOf, a_Tgt, a_RetOwn, a_IoIx, a_iRng1, a_iRng2, a_iEn, a_iZp, a_iLst, a_Lc, a_Mut, a_Put, a_DPut, a_FldS, a_Tried, a_Make, a_LenO, a_ForD0, a_getC, a_setC, a_frzR, bind_ok', bind_exc, bind_bad, bind_ite, andS_ok, andS_exc, andS_bad, andS_ite, of_some, of_none, of_ite, sq_nx, sq_ret, sq_brk, sq_cnt, sq_exc, sq_bad, sq_ite, out_ret, out_nxF, out_exc, out_ite, back_ok, back_exc, back_ite, selB_bl, selB_ite, g_N, g_Tt, g_Tl, g_nil, g_cons, dLt_i, dLe_i, dGt_i, dGe_i, dAdd_i, dSub_i, dNeg_i, dIx_l, dIx_t, cLen_l, cLen_t, cList_l, cList_t, cTuple_l, cTuple_t, cMin_i, cMax_i, atI_zero, atI_one, atI_2, atI_3, atI_4, atI_5, atI_nt, atI_lst, dEq_pl, dNe_pl, dEq_bl, dNe_bl, dIsN_non, dIsN_int, dIsN_str, dIsN_lst, dIsN_tup, dIsN_bl, dNotN_non, dNotN_int, dNotN_str, dNotN_lst, dNotN_tup, dNotN_bl, sqS_l, sqS_t, enS_l, enS_t, noIo, isLst, wipeR, isi_list_n, isi_list_b, isi_list_i, isi_list_s, isi_list_l, isi_list_t, isi_tuple_n, isi_tuple_b, isi_tuple_i, isi_tuple_s, isi_tuple_l, isi_tuple_t, isi_bool_n, isi_bool_b, isi_bool_i, isi_bool_s, isi_bool_l, isi_bool_t, isi_int_n, isi_int_b, isi_int_i, isi_int_s, isi_int_l, isi_int_t, isi_str_n, isi_str_b, isi_str_i, isi_str_s, isi_str_l, isi_str_t, List.foldr_cons, List.foldr_nil, List.getElem?_cons_zero, List.getElem?_cons_succ, List.set_cons_zero, List.set_cons_succ, List.length_cons, List.length_nil, List.replicate_succ, List.replicate_zero, List.cons_append, List.nil_append, List.map_cons, List.map_nil, Nat.reduceAdd, Nat.reduceSub, Nat.reduceLeDiff, Nat.reduceLT, sizeLine_val, ite_true, ite_false, if_true, if_false, Bool.false_eq_true, Bool.true_eq_false, decide_eq_true_eq, Bool.not_eq_true', Bool.not_true, Bool.not_false, decide_true, decide_false, decide_eq_false_iff_not, D.int.injEq, D.str.injEq, D.bl.injEq, reduceCtorEq, Int.cast_ofNat_Int, Int.reduceNeg, Int.reducePow, Int.reduceLE, Int.reduceLT, Int.reduceToNat, and_self, Int.reduceEq, Int.reduceNe, Nat.reduceEqDiff, not_false_eq_true, not_true_eq_false, Int.toNat_natCast, List.range_succ, List.range_zero, a_turn, nxP_nx, nxP_cnt, nxP_ite, ↓reduceIte, Bool.beq_eq_decide_eq, beq_self_eq_true, hl, rng_if, kt, List.length_map, List.length_range, he, cAll_map, all_range_eq _ _ hl]
  · have hne : ¬ ds = es := fun h => hl (by rw [h])
    have hl' : ¬ (ds.length : Int) = es.length := by omega
    constructor <;> simp only [m_l_alike, b_l_alike, a_kBin2, a_kBin, a_kUn, a_kIfE, a_kAndT, a_kOrT, a_kNotT, a_kCons2, a_kCons, a_kCallB, a_kTup, a_kLst, a_kDrop, a_kRet, a_kIfS, a_kSet, a_kSetF, a_kFor, a_kPar2, a_kPar, a_kAnd, a_kOr, a_kNot, a_kCh3, a_kCh2, a_kCh1, a_kSl3, a_kSl2, a_kSl1, a_koSo, a_kOfL, a_krC2, a_krC, a_krIo, a_krDef, a_kCall, a_kCallIo, a_kRaise, a_ktOf, a_kTgt, a_kRng1, a_kRng2, a_kEn, a_kZp2, a_kZp, a_kiLst, a_kLc2, a_kLc, a_kMut, a_kPut2, a_kPut, a_kDPut2, a_kDPut, a_kFldS, a_kMake, a_kLenO, a_runB, a_C, a_Bin, a_Un, a_If, a_tAnd, a_tOr, a_tNot, a_tYes, a_Nil, a_Cons, a_CallB, a_Tup, a_Lst, a_Next, a_Brk, a_Cnt, a_Bad, a_Seq, a_Drop, a_Ret, a_sIf, a_Set, a_SetF, a_Frz, a_For, a_Par, a_AndS, a_OrS, a_Not, a_ChainS, a_Sl, a_oNo, a_oSo, a_iSqS, a_iEnS, a_rNil, a_rCons, a_rDef, a_rIo, a_CallIo, a_Call, a_Raise, a_Var, a_VarB, a_tOf, a_Tgt, a_RetOwn, a_IoIx, a_iRng1, a_iRng2, a_iEn, a_iZp, a_iLst, a_Lc, a_Mut, a_Put, a_DPut, a_FldS, a_Tried, a_Make, a_LenO, a_ForD0, a_getC, a_setC, a_frzR, bind_ok', bind_exc, bind_bad, bind_ite, andS_ok, andS_exc, andS_bad, andS_ite, of_some, of_none, of_ite, sq_nx, sq_ret, sq_brk, sq_cnt, sq_exc, sq_bad, sq_ite, out_ret, out_nxF, out_exc, out_ite, back_ok, back_exc, back_ite, selB_bl, selB_ite, g_N, g_Tt, g_Tl, g_nil, g_cons, dLt_i, dLe_i, dGt_i, dGe_i, dAdd_i, dSub_i, dNeg_i, dIx_l, dIx_t, cLen_l, cLen_t, cList_l, cList_t, cTuple_l, cTuple_t, cMin_i, cMax_i, atI_zero, atI_one, atI_2, atI_3, atI_4, atI_5, atI_nt, atI_lst, dEq_pl, dNe_pl, dEq_bl, dNe_bl, dIsN_non, dIsN_int, dIsN_str, dIsN_lst, dIsN_tup, dIsN_bl, dNotN_non, dNotN_int, dNotN_str, dNotN_lst, dNotN_tup, dNotN_bl, sqS_l, sqS_t, enS_l, enS_t, noIo, isLst, wipeR, isi_list_n, isi_list_b, isi_list_i, isi_list_s, isi_list_l, isi_list_t, isi_tuple_n, isi_tuple_b, isi_tuple_i, isi_tuple_s, isi_tuple_l, isi_tuple_t, isi_bool_n, isi_bool_b, isi_bool_i, isi_bool_s, isi_bool_l, isi_bool_t, isi_int_n, isi_int_b, isi_int_i, isi_int_s, isi_int_l, isi_int_t, isi_str_n, isi_str_b, isi_str_i, isi_str_s, isi_str_l, isi_str_t, List.foldr_cons, List.foldr_nil, List.getElem?_cons_zero, List.getElem?_cons_succ, List.set_cons_zero, List.set_cons_succ, List.length_cons, List.length_nil, List.replicate_succ, List.replicate_zero, List.cons_append, List.nil_append, List.map_cons, List.map_nil, Nat.reduceAdd, Nat.reduceSub, Nat.reduceLeDiff, Nat.reduceLT, sizeLine_val, ite_true, ite_false, if_true, if_false, Bool.false_eq_true, Bool.true_eq_false, decide_eq_true_eq, Bool.not_eq_true', Bool.not_true, Bool.not_false, decide_true, decide_false, decide_eq_false_iff_not, D.int.injEq, D.str.injEq, D.bl.injEq, reduceCtorEq, Int.cast_ofNat_Int, Int.reduceNeg, Int.reducePow, Int.reduceLE, Int.reduceLT, Int.reduceToNat, and_self, Int.reduceEq, Int.reduceNe, Nat.reduceEqDiff, not_false_eq_true, not_true_eq_false, Int.toNat_natCast, List.range_succ, List.range_zero, a_turn, nxP_nx, nxP_cnt, nxP_ite, ↓reduceIte, Bool.beq_eq_decide_eq, beq_self_eq_true, hl', hne]
theorem alike_mix (n : Nat) (d e : D) (ds : List D) (h : (alB 0 d = true ∧ (e = .lst ds ∨ e = .tup ds)) ∨ (alB 0 e = true ∧ (d = .lst ds ∨ d = .tup ds)) ∨ (d = .lst ds ∧ ∃ es, e = .tup es) ∨ (d = .tup ds ∧ ∃ es, e = .lst es)) : m_l_alike (n + 1) [.fz d, .fz e] [] = .ok (.bl (decide (d = e))) [] := by
  rcases h with ⟨h, rfl | rfl⟩ | ⟨h, rfl | rfl⟩ | ⟨rfl, es, rfl⟩ | ⟨rfl, es, rfl⟩
  · cases d <;> first | (cases h; done) | (simp only [m_l_alike, b_l_alike, a_kBin2, a_kBin, a_kUn, a_kIfE, a_kAndT, a_kOrT, a_kNotT, a_kCons2, a_kCons, a_kCallB, a_kTup, a_kLst, a_kDrop, a_kRet, a_kIfS, a_kSet, a_kSetF, a_kFor, a_kPar2, a_kPar, a_kAnd, a_kOr, a_kNot, a_kCh3, a_kCh2, a_kCh1, a_kSl3, a_kSl2, a_kSl1, a_koSo, a_kOfL, a_krC2, a_krC, a_krIo, a_krDef, a_kCall, a_kCallIo, a_kRaise, a_ktOf, a_kTgt, a_kRng1, a_kRng2, a_kEn, a_kZp2, a_kZp, a_kiLst, a_kLc2, a_kLc, a_kMut, a_kPut2, a_kPut, a_kDPut2, a_kDPut, a_kFldS, a_kMake, a_kLenO, a_runB, a_C, a_Bin, a_Un, a_If, a_tAnd, a_tOr, a_tNot, a_tYes, a_Nil, a_Cons, a_CallB, a_Tup, a_Lst, a_Next, a_Brk, a_Cnt, a_Bad, a_Seq, a_Drop, a_Ret, a_sIf, a_Set, a_SetF, a_Frz, a_For, a_Par, a_AndS, a_OrS, a_Not, a_ChainS, a_Sl, a_oNo, a_oSo, a_iSqS, a_iEnS, a_rNil, a_rCons, a_rDef, a_rIo, a_CallIo, a_Call, a_Raise, a_Var, a_VarB, a_tOf, a_Tgt, a_RetOwn, a_IoIx, a_iRng1, a_iRng2, a_iEn, a_iZp, a_iLst, a_Lc, a_Mut, a_Put, a_DPut, a_FldS, a_Tried, a_Make, a_LenO, a_ForD0, a_getC, a_setC, a_frzR, bind_ok', bind_exc, bind_bad, bind_ite, andS_ok, andS_exc, andS_bad, andS_ite, of_some, of_none, of_ite, sq_nx, sq_ret, sq_brk, sq_cnt, sq_exc, sq_bad, sq_ite, out_ret, out_nxF, out_exc, out_ite, back_ok, back_exc, back_ite, selB_bl, selB_ite, g_N, g_Tt, g_Tl, g_nil, g_cons, dLt_i, dLe_i, dGt_i, dGe_i, dAdd_i, dSub_i, dNeg_i, dIx_l, dIx_t, cLen_l, cLen_t, cList_l, cList_t, cTuple_l, cTuple_t, cMin_i, cMax_i, atI_zero, atI_one, atI_2, atI_3, atI_4, atI_5, atI_nt, atI_lst, dEq_pl, dNe_pl, dEq_bl, dNe_bl, dIsN_non, dIsN_int, dIsN_str, dIsN_lst, dIsN_tup, dIsN_bl, dNotN_non, dNotN_int, dNotN_str, dNotN_lst, dNotN_tup, dNotN_bl, sqS_l, sqS_t, enS_l, enS_t, noIo, isLst, wipeR, isi_list_n, isi_list_b, isi_list_i, isi_list_s, isi_list_l, isi_list_t, isi_tuple_n, isi_tuple_b, isi_tuple_i, isi_tuple_s, isi_tuple_l, isi_tuple_t, isi_bool_n, isi_bool_b, isi_bool_i, isi_bool_s, isi_bool_l, isi_bool_t, isi_int_n, isi_int_b, isi_int_i, isi_int_s, isi_int_l, isi_int_t, isi_str_n, isi_str_b, isi_str_i, isi_str_s, isi_str_l, isi_str_t, List.foldr_cons, List.foldr_nil, List.getElem?_cons_zero, List.getElem?_cons_succ, List.set_cons_zero, List.set_cons_succ, List.length_cons, List.length_nil, List.replicate_succ, List.replicate_zero, List.cons_append, List.nil_append, List.map_cons, List.map_nil, Nat.reduceAdd, Nat.reduceSub, Nat.reduceLeDiff, Nat.reduceLT, sizeLine_val, ite_true, ite_false, if_true, if_false, Bool.false_eq_true, Bool.true_eq_false, decide_eq_true_eq, Bool.not_eq_true', Bool.not_true, Bool.not_false, decide_true, decide_false, decide_eq_false_iff_not, D.int.injEq, D.str.injEq, D.bl.injEq, reduceCtorEq, Int.cast_ofNat_Int, Int.reduceNeg, Int.reducePow, Int.reduceLE, Int.reduceLT, Int.reduceToNat, and_self, Int.reduceEq, Int.reduceNe, Nat.reduceEqDiff, not_false_eq_true, not_true_eq_false, Int.toNat_natCast, List.range_succ, List.range_zero, a_turn, nxP_nx, nxP_cnt, nxP_ite, ↓reduceIte, Bool.beq_eq_decide_eq, beq_self_eq_true]; done)
  · cases d <;> first | (cases h; done) | (simp only [m_l_alike, b_l_alike, a_kBin2, a_kBin, a_kUn, a_kIfE, a_kAndT, a_kOrT, a_kNotT, a_kCons2, a_kCons, a_kCallB, a_kTup, a_kLst, a_kDrop, a_kRet, a_kIfS, a_kSet, a_kSetF, a_kFor, a_kPar2, a_kPar, a_kAnd, a_kOr, a_kNot, a_kCh3, a_kCh2, a_kCh1, a_kSl3, a_kSl2, a_kSl1, a_koSo, a_kOfL, a_krC2, a_krC, a_krIo, a_krDef, a_kCall, a_kCallIo, a_kRaise, a_ktOf, a_kTgt, a_kRng1, a_kRng2, a_kEn, a_kZp2, a_kZp, a_kiLst, a_kLc2, a_kLc, a_kMut, a_kPut2, a_kPut, a_kDPut2, a_kDPut, a_kFldS, a_kMake, a_kLenO, a_runB, a_C, a_Bin, a_Un, a_If, a_tAnd, a_tOr, a_tNot, a_tYes, a_Nil, a_Cons, a_CallB, a_Tup, a_Lst, a_Next, a_Brk, a_Cnt, a_Bad, a_Seq, a_Drop, a_Ret, a_sIf, a_Set, a_SetF, a_Frz, a_For, a_Par, a_AndS, a_OrS, a_Not, a_ChainS, a_Sl, a_oNo, a_oSo, a_iSqS, a_iEnS, a_rNil, a_rCons, a_rDef, a_rIo, a_CallIo, a_Call, a_Raise, a_Var, a_VarB, a_tOf, a_Tgt, a_RetOwn, a_IoIx, a_iRng1, a_iRng2, a_iEn, a_iZp, a_iLst, a_Lc, a_Mut, a_Put, a_DPut, a_FldS, a_Tried, a_Make, a_LenO, a_ForD0, a_getC, a_setC, a_frzR, bind_ok', bind_exc, bind_bad, bind_ite, andS_ok, andS_exc, andS_bad, andS_ite, of_some, of_none, of_ite, sq_nx, sq_ret, sq_brk, sq_cnt, sq_exc, sq_bad, sq_ite, out_ret, out_nxF, out_exc, out_ite, back_ok, back_exc, back_ite, selB_bl, selB_ite, g_N, g_Tt, g_Tl, g_nil, g_cons, dLt_i, dLe_i, dGt_i, dGe_i, dAdd_i, dSub_i, dNeg_i, dIx_l, dIx_t, cLen_l, cLen_t, cList_l, cList_t, cTuple_l, cTuple_t, cMin_i, cMax_i, atI_zero, atI_one, atI_2, atI_3, atI_4, atI_5, atI_nt, atI_lst, dEq_pl, dNe_pl, dEq_bl, dNe_bl, dIsN_non, dIsN_int, dIsN_str, dIsN_lst, dIsN_tup, dIsN_bl, dNotN_non, dNotN_int, dNotN_str, dNotN_lst, dNotN_tup, dNotN_bl, sqS_l, sqS_t, enS_l, enS_t, noIo, isLst, wipeR, isi_list_n, isi_list_b, isi_list_i, isi_list_s, isi_list_l, isi_list_t, isi_tuple_n, isi_tuple_b, isi_tuple_i, isi_tuple_s, isi_tuple_l, isi_tuple_t, isi_bool_n, isi_bool_b, isi_bool_i, isi_bool_s, isi_bool_l, isi_bool_t, isi_int_n, isi_int_b, isi_int_i, isi_int_s, isi_int_l, isi_int_t, isi_str_n, isi_str_b, isi_str_i, isi_str_s, isi_str_l, isi_str_t, List.foldr_cons, List.foldr_nil, List.getElem?_cons_zero, List.getElem?_cons_succ, List.set_cons_zero, List.set_cons_succ, List.length_cons, List.length_nil, List.replicate_succ, List.replicate_zero, List.cons_append, List.nil_append, List.map_cons, List.map_nil, Nat.reduceAdd, Nat.reduceSub, Nat.reduceLeDiff, Nat.reduceLT, sizeLine_val, ite_true, ite_false, if_true, if_false, Bool.false_eq_true, Bool.true_eq_false, decide_eq_true_eq, Bool.not_eq_true', Bool.not_true, Bool.not_false, decide_true, decide_false, decide_eq_false_iff_not, D.int.injEq, D.str.injEq, D.bl.injEq, reduceCtorEq, Int.cast_ofNat_Int, Int.reduceNeg, Int.reducePow, Int.reduceLE, Int.reduceLT, Int.reduceToNat, and_self, Int.reduceEq, Int.reduceNe, Nat.reduceEqDiff, not_false_eq_true, not_true_eq_false, Int.toNat_natCast, List.range_succ, List.range_zero, a_turn, nxP_nx, nxP_cnt, nxP_ite, ↓reduceIte, Bool.beq_eq_decide_eq, beq_self_eq_true]; done)
  · cases e <;> first | (cases h; done) | (simp only [m_l_alike, b_l_alike, a_kBin2, a_kBin, a_kUn, a_kIfE, a_kAndT, a_kOrT, a_kNotT, a_kCons2, a_kCons, a_kCallB, a_kTup, a_kLst, a_kDrop, a_kRet, a_kIfS, a_kSet, a_kSetF, a_kFor, a_kPar2, a_kPar, a_kAnd, a_kOr, a_kNot, a_kCh3, a_kCh2, a_kCh1, a_kSl3, a_kSl2, a_kSl1, a_koSo, a_kOfL, a_krC2, a_krC, a_krIo, a_krDef, a_kCall, a_kCallIo, a_kRaise, a_ktOf, a_kTgt, a_kRng1, a_kRng2, a_kEn, a_kZp2, a_kZp, a_kiLst, a_kLc2, a_kLc, a_kMut, a_kPut2, a_kPut, a_kDPut2, a_kDPut, a_kFldS, a_kMake, a_kLenO, a_runB, a_C, a_Bin, a_Un, a_If, a_tAnd, a_tOr, a_tNot, a_tYes, a_Nil, a_Cons, a_CallB, a_Tup, a_Lst, a_Next, a_Brk, a_Cnt, a_Bad, a_Seq, a_Drop, a_Ret, a_sIf, a_Set, a_SetF, a_Frz, a_For, a_Par, a_AndS, a_OrS, a_Not, a_ChainS, a_Sl, a_oNo, a_oSo, a_iSqS, a_iEnS, a_rNil, a_rCons, a_rDef, a_rIo, a_CallIo, a_Call, a_Raise, a_Var, a_VarB, a_tOf, a_Tgt, a_RetOwn, a_IoIx, a_iRng1, a_iRng2, a_iEn, a_iZp, a_iLst, a_Lc, a_Mut, a_Put, a_DPut, a_FldS, a_Tried, a_Make, a_LenO, a_ForD0, a_getC, a_setC, a_frzR, bind_ok', bind_exc, bind_bad, bind_ite, andS_ok, andS_exc, andS_bad, andS_ite, of_some, of_none, of_ite, sq_nx, sq_ret, sq_brk, sq_cnt, sq_exc, sq_bad, sq_ite, out_ret, out_nxF, out_exc, out_ite, back_ok, back_exc, back_ite, selB_bl, selB_ite, g_N, g_Tt, g_Tl, g_nil, g_cons, dLt_i, dLe_i, dGt_i, dGe_i, dAdd_i, dSub_i, dNeg_i, dIx_l, dIx_t, cLen_l, cLen_t, cList_l, cList_t, cTuple_l, cTuple_t, cMin_i, cMax_i, atI_zero, atI_one, atI_2, atI_3, atI_4, atI_5, atI_nt, atI_lst, dEq_pl, dNe_pl, dEq_bl, dNe_bl, dIsN_non, dIsN_int, dIsN_str, dIsN_lst, dIsN_tup, dIsN_bl, dNotN_non, dNotN_int, dNotN_str, dNotN_lst, dNotN_tup, dNotN_bl, sqS_l, sqS_t, enS_l, enS_t, noIo, isLst, wipeR, isi_list_n, isi_list_b, isi_list_i, isi_list_s, isi_list_l, isi_list_t, isi_tuple_n, isi_tuple_b, isi_tuple_i, isi_tuple_s, isi_tuple_l, isi_tuple_t, isi_bool_n, isi_bool_b, isi_bool_i, isi_bool_s, isi_bool_l, isi_bool_t, isi_int_n, isi_int_b, isi_int_i, isi_int_s, isi_int_l, isi_int_t, isi_str_n, isi_str_b, isi_str_i, isi_str_s, isi_str_l, isi_str_t, List.foldr_cons, List.foldr_nil, List.getElem?_cons_zero, List.getElem?_cons_succ, List.set_cons_zero, List.set_cons_succ, List.length_cons, List.length_nil, List.replicate_succ, List.replicate_zero, List.cons_append, List.nil_append, List.map_cons, List.map_nil, Nat.reduceAdd, Nat.reduceSub, Nat.reduceLeDiff, Nat.reduceLT, sizeLine_val, ite_true, ite_false, if_true, if_false, Bool.false_eq_true, Bool.true_eq_false, decide_eq_true_eq, Bool.not_eq_true', Bool.not_true, Bool.not_false, decide_true, decide_false, decide_eq_false_iff_not, D.int.injEq, D.str.injEq, D.bl.injEq, reduceCtorEq, Int.cast_ofNat_Int, Int.reduceNeg, Int.reducePow, Int.reduceLE, Int.reduceLT, Int.reduceToNat, and_self, Int.reduceEq, Int.reduceNe, Nat.reduceEqDiff, not_false_eq_true, not_true_eq_false, Int.toNat_natCast, List.range_succ, List.range_zero, a_turn, nxP_nx, nxP_cnt, nxP_ite, ↓reduceIte, Bool.beq_eq_decide_eq, beq_self_eq_true]; done)
  · cases e <;> first | (cases h; done) | (simp only [m_l_alike, b_l_alike, a_kBin2, a_kBin, a_kUn, a_kIfE, a_kAndT, a_kOrT, a_kNotT, a_kCons2, a_kCons, a_kCallB, a_kTup, a_kLst, a_kDrop, a_kRet, a_kIfS, a_kSet, a_kSetF, a_kFor, a_kPar2, a_kPar, a_kAnd, a_kOr, a_kNot, a_kCh3, a_kCh2, a_kCh1, a_kSl3, a_kSl2, a_kSl1, a_koSo, a_kOfL, a_krC2, a_krC, a_krIo, a_krDef, a_kCall, a_kCallIo, a_kRaise, a_ktOf, a_kTgt, a_kRng1, a_kRng2, a_kEn, a_kZp2, a_kZp, a_kiLst, a_kLc2, a_kLc, a_kMut, a_kPut2, a_kPut, a_kDPut2, a_kDPut, a_kFldS, a_kMake, a_kLenO, a_runB, a_C, a_Bin, a_Un, a_If, a_tAnd, a_tOr, a_tNot, a_tYes, a_Nil, a_Cons, a_CallB, a_Tup, a_Lst, a_Next, a_Brk, a_Cnt, a_Bad, a_Seq, a_Drop, a_Ret, a_sIf, a_Set, a_SetF, a_Frz, a_For, a_Par, a_AndS, a_OrS, a_Not, a_ChainS, a_Sl, a_oNo, a_oSo, a_iSqS, a_iEnS, a_rNil, a_rCons, a_rDef, a_rIo, a_CallIo, a_Call, a_Raise, a_Var, a_VarB, a_tOf, a_Tgt, a_RetOwn, a_IoIx, a_iRng1, a_iRng2, a_iEn, a_iZp, a_iLst, a_Lc, a_Mut, a_Put, a_DPut, a_FldS, a_Tried, a_Make, a_LenO, a_ForD0, a_getC, a_setC, a_frzR, bind_ok', bind_exc, bind_bad, bind_ite, andS_ok, andS_exc, andS_bad, andS_ite, of_some, of_none, of_ite, sq_nx, sq_ret, sq_brk, sq_cnt, sq_exc, sq_bad, sq_ite, out_ret, out_nxF, out_exc, out_ite, back_ok, back_exc, back_ite, selB_bl, selB_ite, g_N, g_Tt, g_Tl, g_nil, g_cons, dLt_i, dLe_i, dGt_i, dGe_i, dAdd_i, dSub_i, dNeg_i, dIx_l, dIx_t, cLen_l, cLen_t, cList_l, cList_t, cTuple_l, cTuple_t, cMin_i, cMax_i, atI_zero, atI_one, atI_2, atI_3, atI_4, atI_5, atI_nt, atI_lst, dEq_pl, dNe_pl, dEq_bl, dNe_bl, dIsN_non, dIsN_int, dIsN_str, dIsN_lst, dIsN_tup, dIsN_bl, dNotN_non, dNotN_int, dNotN_str, dNotN_lst, dNotN_tup, dNotN_bl, sqS_l, sqS_t, enS_l, enS_t, noIo, isLst, wipeR, isi_list_n, isi_list_b, isi_list_i, isi_list_s, isi_list_l, isi_list_t, isi_tuple_n, isi_tuple_b, isi_tuple_i, isi_tuple_s, isi_tuple_l, isi_tuple_t, isi_bool_n, isi_bool_b, isi_bool_i, isi_bool_s, isi_bool_l, isi_bool_t, isi_int_n, isi_int_b, isi_int_i, isi_int_s, isi_int_l, isi_int_t, isi_str_n, isi_str_b, isi_str_i, isi_str_s, isi_str_l, isi_str_t, List.foldr_cons, List.foldr_nil, List.getElem?_cons_zero, List.getElem?_cons_succ, List.set_cons_zero, List.set_cons_succ, List.length_cons, List.length_nil, List.replicate_succ, List.replicate_zero, List.cons_append, List.nil_append, List.map_cons, List.map_nil, Nat.reduceAdd, Nat.reduceSub, Nat.reduceLeDiff, Nat.reduceLT, sizeLine_val, ite_true, ite_false, if_true, if_false, Bool.false_eq_true, Bool.true_eq_false, decide_eq_true_eq, Bool.not_eq_true', Bool.not_true, Bool.not_false, decide_true, decide_false, decide_eq_false_iff_not, D.int.injEq, D.str.injEq, D.bl.injEq, reduceCtorEq, Int.cast_ofNat_Int, Int.reduceNeg, Int.reducePow, Int.reduceLE, Int.reduceLT, Int.reduceToNat, and_self, Int.reduceEq, Int.reduceNe, Nat.reduceEqDiff, not_false_eq_true, not_true_eq_false, Int.toNat_natCast, List.range_succ, List.range_zero, a_turn, nxP_nx, nxP_cnt, nxP_ite, ↓reduceIte, Bool.beq_eq_decide_eq, beq_self_eq_true]; done)
  · simp only [m_l_alike, b_l_alike, a_kBin2, a_kBin, a_kUn, a_kIfE, a_kAndT, a_kOrT, a_kNotT, a_kCons2, a_kCons, a_kCallB, a_kTup, a_kLst, a_kDrop, a_kRet, a_kIfS, a_kSet, a_kSetF, a_kFor, a_kPar2, a_kPar, a_kAnd, a_kOr, a_kNot, a_kCh3, a_kCh2, a_kCh1, a_kSl3, a_kSl2, a_kSl1, a_koSo, a_kOfL, a_krC2, a_krC, a_krIo, a_krDef, a_kCall, a_kCallIo, a_kRaise, a_ktOf, a_kTgt, a_kRng1, a_kRng2, a_kEn, a_kZp2, a_kZp, a_kiLst, a_kLc2, a_kLc, a_kMut, a_kPut2, a_kPut, a_kDPut2, a_kDPut, a_kFldS, a_kMake, a_kLenO, a_runB, a_C, a_Bin, a_Un, a_If, a_tAnd, a_tOr, a_tNot, a_tYes, a_Nil, a_Cons, a_CallB, a_Tup, a_Lst, a_Next, a_Brk, a_Cnt, a_Bad, a_Seq, a_Drop, a_Ret, a_sIf, a_Set, a_SetF, a_Frz, a_For, a_Par, a_AndS, a_OrS, a_Not, a_ChainS, a_Sl, a_oNo, a_oSo, a_iSqS, a_iEnS, a_rNil, a_rCons, a_rDef, a_rIo, a_CallIo, a_Call, a_Raise, a_Var, a_VarB, a_tOf, a_Tgt, a_RetOwn, a_IoIx, a_iRng1, a_iRng2, a_iEn, a_iZp, a_iLst, a_Lc, a_Mut, a_Put, a_DPut, a_FldS, a_Tried, a_Make, a_LenO, a_ForD0, a_getC, a_setC, a_frzR, bind_ok', bind_exc, bind_bad, bind_ite, andS_ok, andS_exc, andS_bad, andS_ite, of_some, of_none, of_ite, sq_nx, sq_ret, sq_brk, sq_cnt, sq_exc, sq_bad, sq_ite, out_ret, out_nxF, out_exc, out_ite, back_ok, back_exc, back_ite, selB_bl, selB_ite, g_N, g_Tt, g_Tl, g_nil, g_cons, dLt_i, dLe_i, dGt_i, dGe_i, dAdd_i, dSub_i, dNeg_i, dIx_l, dIx_t, cLen_l, cLen_t, cList_l, cList_t, cTuple_l, cTuple_t, cMin_i, cMax_i, atI_zero, atI_one, atI_2, atI_3, atI_4, atI_5, atI_nt, atI_lst, dEq_pl, dNe_pl, dEq_bl, dNe_bl, dIsN_non, dIsN_int, dIsN_str, dIsN_lst, dIsN_tup, dIsN_bl, dNotN_non, dNotN_int, dNotN_str, dNotN_lst, dNotN_tup, dNotN_bl, sqS_l, sqS_t, enS_l, enS_t, noIo, isLst, wipeR, isi_list_n, isi_list_b, isi_list_i, isi_list_s, isi_list_l, isi_list_t, isi_tuple_n, isi_tuple_b, isi_tuple_i, isi_tuple_s, isi_tuple_l, isi_tuple_t, isi_bool_n, isi_bool_b, isi_bool_i, isi_bool_s, isi_bool_l, isi_bool_t, isi_int_n, isi_int_b, isi_int_i, isi_int_s, isi_int_l, isi_int_t, isi_str_n, isi_str_b, isi_str_i, isi_str_s, isi_str_l, isi_str_t, List.foldr_cons, List.foldr_nil, List.getElem?_cons_zero, List.getElem?_cons_succ, List.set_cons_zero, List.set_cons_succ, List.length_cons, List.length_nil, List.replicate_succ, List.replicate_zero, List.cons_append, List.nil_append, List.map_cons, List.map_nil, Nat.reduceAdd, Nat.reduceSub, Nat.reduceLeDiff, Nat.reduceLT, sizeLine_val, ite_true, ite_false, if_true, if_false, Bool.false_eq_true, Bool.true_eq_false, decide_eq_true_eq, Bool.not_eq_true', Bool.not_true, Bool.not_false, decide_true, decide_false, decide_eq_false_iff_not, D.int.injEq, D.str.injEq, D.bl.injEq, reduceCtorEq, Int.cast_ofNat_Int, Int.reduceNeg, Int.reducePow, Int.reduceLE, Int.reduceLT, Int.reduceToNat, and_self, Int.reduceEq, Int.reduceNe, Nat.reduceEqDiff, not_false_eq_true, not_true_eq_false, Int.toNat_natCast, List.range_succ, List.range_zero, a_turn, nxP_nx, nxP_cnt, nxP_ite, ↓reduceIte, Bool.beq_eq_decide_eq, beq_self_eq_true]
  · simp only [m_l_alike, b_l_alike, a_kBin2, a_kBin, a_kUn, a_kIfE, a_kAndT, a_kOrT, a_kNotT, a_kCons2, a_kCons, a_kCallB, a_kTup, a_kLst, a_kDrop, a_kRet, a_kIfS, a_kSet, a_kSetF, a_kFor, a_kPar2, a_kPar, a_kAnd, a_kOr, a_kNot, a_kCh3, a_kCh2, a_kCh1, a_kSl3, a_kSl2, a_kSl1, a_koSo, a_kOfL, a_krC2, a_krC, a_krIo, a_krDef, a_kCall, a_kCallIo, a_kRaise, a_ktOf, a_kTgt, a_kRng1, a_kRng2, a_kEn, a_kZp2, a_kZp, a_kiLst, a_kLc2, a_kLc, a_kMut, a_kPut2, a_kPut, a_kDPut2, a_kDPut, a_kFldS, a_kMake, a_kLenO, a_runB, a_C, a_Bin, a_Un, a_If, a_tAnd, a_tOr, a_tNot, a_tYes, a_Nil, a_Cons, a_CallB, a_Tup, a_Lst, a_Next, a_Brk, a_Cnt, a_Bad, a_Seq, a_Drop, a_Ret, a_sIf, a_Set, a_SetF, a_Frz, a_For, a_Par, a_AndS, a_OrS, a_Not, a_ChainS, a_Sl, a_oNo, a_oSo, a_iSqS, a_iEnS, a_rNil, a_rCons, a_rDef, a_rIo, a_CallIo, a_Call, a_Raise, a_Var, a_VarB, a_tOf, a_Tgt, a_RetOwn, a_IoIx, a_iRng1, a_iRng2, a_iEn, a_iZp, a_iLst, a_Lc, a_Mut, a_Put, a_DPut, a_FldS, a_Tried, a_Make, a_LenO, a_ForD0, a_getC, a_setC, a_frzR, bind_ok', bind_exc, bind_bad, bind_ite, andS_ok, andS_exc, andS_bad, andS_ite, of_some, of_none, of_ite, sq_nx, sq_ret, sq_brk, sq_cnt, sq_exc, sq_bad, sq_ite, out_ret, out_nxF, out_exc, out_ite, back_ok, back_exc, back_ite, selB_bl, selB_ite, g_N, g_Tt, g_Tl, g_nil, g_cons, dLt_i, dLe_i, dGt_i, dGe_i, dAdd_i, dSub_i, dNeg_i, dIx_l, dIx_t, cLen_l, cLen_t, cList_l, cList_t, cTuple_l, cTuple_t, cMin_i, cMax_i, atI_zero, atI_one, atI_2, atI_3, atI_4, atI_5, atI_nt, atI_lst, dEq_pl, dNe_pl, dEq_bl, dNe_bl, dIsN_non, dIsN_int, dIsN_str, dIsN_lst, dIsN_tup, dIsN_bl, dNotN_non, dNotN_int, dNotN_str, dNotN_lst, dNotN_tup, dNotN_bl, sqS_l, sqS_t, enS_l, enS_t, noIo, isLst, wipeR, isi_list_n, isi_list_b, isi_list_i, isi_list_s, isi_list_l, isi_list_t, isi_tuple_n, isi_tuple_b, isi_tuple_i, isi_tuple_s, isi_tuple_l, isi_tuple_t, isi_bool_n, isi_bool_b, isi_bool_i, isi_bool_s, isi_bool_l, isi_bool_t, isi_int_n, isi_int_b, isi_int_i, isi_int_s, isi_int_l, isi_int_t, isi_str_n, isi_str_b, isi_str_i, isi_str_s, isi_str_l, isi_str_t, List.foldr_cons, List.foldr_nil, List.getElem?_cons_zero, List.getElem?_cons_succ, List.set_cons_zero, List.set_cons_succ, List.length_cons, List.length_nil, List.replicate_succ, List.replicate_zero, List.cons_append, List.nil_append, List.map_cons, List.map_nil, Nat.reduceAdd, Nat.reduceSub, Nat.reduceLeDiff, Nat.reduceLT, sizeLine_val, ite_true, ite_false, if_true, if_false, Bool.false_eq_true, Bool.true_eq_false, decide_eq_true_eq, Bool.not_eq_true', Bool.not_true, Bool.not_false, decide_true, decide_false, decide_eq_false_iff_not, D.int.injEq, D.str.injEq, D.bl.injEq, reduceCtorEq, Int.cast_ofNat_Int, Int.reduceNeg, Int.reducePow, Int.reduceLE, Int.reduceLT, Int.reduceToNat, and_self, Int.reduceEq, Int.reduceNe, Nat.reduceEqDiff, not_false_eq_true, not_true_eq_false, Int.toNat_natCast, List.range_succ, List.range_zero, a_turn, nxP_nx, nxP_cnt, nxP_ite, ↓reduceIte, Bool.beq_eq_decide_eq, beq_self_eq_true]
theorem alB_0 {n : Nat} {d : D} (h : alB n d = true) : alB 0 d = true ∨ ∃ ds, (d = .lst ds ∨ d = .tup ds) ∧ ∃ m, n = m + 1 ∧ ds.all (alB m) = true ∧ ds.length ≤ 16777216 := by
  cases d <;> first | (cases n <;> cases h; done) | skip
  · exact .inl rfl
  · exact .inl rfl
  · exact .inl rfl
  · exact .inl (by cases n <;> exact h)
  · cases n with
    | zero => cases h
    | succ m =>
      unfold alB at h
      rw [Bool.and_eq_true, decide_eq_true_iff] at h
      exact .inr ⟨_, .inl rfl, m, rfl, h.1, h.2⟩
  · cases n with
    | zero => cases h
    | succ m =>
      unfold alB at h
      rw [Bool.and_eq_true, decide_eq_true_iff] at h
      exact .inr ⟨_, .inr rfl, m, rfl, h.1, h.2⟩
theorem alike_ok : ∀ (n : Nat) (d e : D), alB n d = true → alB n e = true → m_l_alike (n + 1) [.fz d, .fz e] [] = .ok (.bl (decide (d = e))) [] := by
  intro n
  induction n with
  | zero => exact fun d e => alike_flat 0 d e
  | succ n ih =>
    intro d e h g
    rcases alB_0 h with h | ⟨ds, hd, m, hm, h1, h2⟩
    · rcases alB_0 g with g | ⟨es, he, m, hm, g1, g2⟩
      · exact alike_flat _ d e h g
      · exact alike_mix _ d e es (.inl ⟨h, he⟩)
    · rcases alB_0 g with g | ⟨es, he, m', hm', g1, g2⟩
      · exact alike_mix _ d e ds (.inr (.inl ⟨g, hd⟩))
      · cases hm; cases hm'
        obtain ⟨k1, k2⟩ := alike_seq (n + 1) ds es h2 g2 fun d hd e he => ih d e (List.all_eq_true.mp h1 d hd) (List.all_eq_true.mp g1 e he)
        rcases hd with rfl | rfl <;> rcases he with rfl | rfl
        · rw [k1]; simp only [D.lst.injEq]
        · exact alike_mix _ _ _ ds (.inr (.inr (.inl ⟨rfl, es, rfl⟩)))
        · exact alike_mix _ _ _ ds (.inr (.inr (.inr ⟨rfl, es, rfl⟩)))
        · rw [k2]; simp only [D.tup.injEq]
theorem alike_same {d e : D} [h : Aln 7 d] [g : Aln 7 e] : m_l_alike 8 [.fz d, .fz e] [] = .ok (.bl (decide (d = e))) [] := alike_ok 7 d e h.ok g.ok
end K03
set_option maxHeartbeats 400000
namespace K03
open PySem PySem.Spec L2 Hw
theorem sz_both (c n m : Int) : (szE c n m = none ∧ szD c n m = none) ∨ ∃ e d, szE c n m = some e ∧ szD c n m = some d ∧ alB 7 d = true ∧ dIsN d .non = some (.bl false) ∧ dNotN d .non = some (.bl true) ∧
    ∀ (f : SE) (ρ : Rho) (τ τ' : Tau), f ρ τ = .exc e τ' → eTried tab "told" "no" f ρ τ = .ok d τ' := by
  unfold szE szD
  have k1 : ∀ v : Int, alB 7 (.tup [.str "no", .str "BadNumber", .int v]) = true := fun v => (inferInstance : Aln 7 (.tup [.str "no", .str "BadNumber", .int v])).ok
  have k2 : ∀ v : Int, alB 7 (.tup [.str "no", .str "Full", .int v]) = true := fun v => (inferInstance : Aln 7 (.tup [.str "no", .str "Full", .int v])).ok
  split
  · exact .inr ⟨_, _, rfl, rfl, k1 _, rfl, rfl, fun f ρ τ τ' h => by rw [a_Tried, h]; rfl⟩
  · split
    · exact .inr ⟨_, _, rfl, rfl, k1 _, rfl, rfl, fun f ρ τ τ' h => by rw [a_Tried, h]; rfl⟩
    · split
      · exact .inr ⟨_, _, rfl, rfl, k2 _, rfl, rfl, fun f ρ τ τ' h => by rw [a_Tried, h]; rfl⟩
      · split
        · exact .inr ⟨_, _, rfl, rfl, k2 _, rfl, rfl, fun f ρ τ τ' h => by rw [a_Tried, h]; rfl⟩
        · exact .inl ⟨rfl, rfl⟩
theorem tried_ok {f : SE} {ρ : Rho} {τ τ' : Tau} {d : D} (h : f ρ τ = .ok d τ') : eTried tab "told" "no" f ρ τ = .ok (.tup [.str "told", d]) τ' := by rw [a_Tried, h]
theorem tried_net {f : SE} {ρ : Rho} {τ τ' : Tau} {d : D} (h : f ρ τ = .exc ⟨"BadNet", ["fault", "tag"], [d, .str "BadNet"]⟩ τ') : eTried tab "told" "no" f ρ τ = .ok (.tup [.str "no", .str "BadNet", d]) τ' := by rw [a_Tried, h]; rfl
instance {n : Nat} {i : Option Nat} : Aln (n + 1) (efD i) := by
  cases i with
  | none => exact (inferInstance : Aln (n + 1) .non)
  | some i => exact (inferInstance : Aln (n + 1) (.tup [.str "edge", .int i]))
instance {n : Nat} {c k : Int} {L : List Ed} {d : D} [h : Aln (n + 1) d] : Aln (n + 1) (faultD c k L d) := by
  unfold faultD
  split
  · exact inferInstance
  · exact h
def asksD (x y z : D) : D := .lst [x, y, z]
theorem sized_ok (c n : Int) (L : List Ed) (hl : L.length ≤ 900) (z : D) :
    m_l_sized [.fz (.lst [.tup [.str "told", faultD c n L (.tup [.str "swap", .int 0])], (match ef c n L with | some i => .tup [.str "no", .str "BadNet", efD (some i)] | none => .tup [.str "told", netD c n L]), z]), .fz (.tup [.int c, .int n, .lst (L.map tri), .lst []])] [] = .ok (.bl true) [] := by
  have h0 := rough_0 c n L (by omega)
  have h1 : m_l_rough_fault [.fz (.tup [.int c, .int n, .lst (L.map tri), .lst [.tup [.int 9]]])] [] = .ok (faultD c n L (.tup [.str "swap", .int 0])) [] := rough_1 c n L (by omega)
  simp only [m_l_sized, b_l_sized, a_kBin2, a_kBin, a_kUn, a_kIfE, a_kAndT, a_kOrT, a_kNotT, a_kCons2, a_kCons, a_kCallB, a_kTup, a_kLst, a_kDrop, a_kRet, a_kIfS, a_kSet, a_kSetF, a_kFor, a_kPar2, a_kPar, a_kAnd, a_kOr, a_kNot, a_kCh3, a_kCh2, a_kCh1, a_kSl3, a_kSl2, a_kSl1, a_koSo, a_kOfL, a_krC2, a_krC, a_krIo, a_krDef, a_kCall, a_kCallIo, a_kRaise, a_ktOf, a_kTgt, a_kRng1, a_kRng2, a_kEn, a_kZp2, a_kZp, a_kiLst, a_kLc2, a_kLc, a_kMut, a_kPut2, a_kPut, a_kDPut2, a_kDPut, a_kFldS, a_kMake, a_kLenO, a_runB, a_C, a_Bin, a_Un, a_If, a_tAnd, a_tOr, a_tNot, a_tYes, a_Nil, a_Cons, a_CallB, a_Tup, a_Lst, a_Next, a_Brk, a_Cnt, a_Bad, a_Seq, a_Drop, a_Ret, a_sIf, a_Set, a_SetF, a_Frz, a_For, a_Par, a_AndS, a_OrS, a_Not, a_ChainS, a_Sl, a_oNo, a_oSo, a_iSqS, a_iEnS, a_rNil, a_rCons, a_rDef, a_rIo, a_CallIo, a_Call, a_Raise, a_Var, a_VarB, a_tOf, a_Tgt, a_RetOwn, a_IoIx, a_iRng1, a_iRng2, a_iEn, a_iZp, a_iLst, a_Lc, a_Mut, a_Put, a_DPut, a_FldS, a_Tried, a_Make, a_LenO, a_ForD0, a_getC, a_setC, a_frzR, bind_ok', bind_exc, bind_bad, bind_ite, andS_ok, andS_exc, andS_bad, andS_ite, of_some, of_none, of_ite, sq_nx, sq_ret, sq_brk, sq_cnt, sq_exc, sq_bad, sq_ite, out_ret, out_nxF, out_exc, out_ite, back_ok, back_exc, back_ite, selB_bl, selB_ite, g_N, g_Tt, g_Tl, g_nil, g_cons, dLt_i, dLe_i, dGt_i, dGe_i, dAdd_i, dSub_i, dNeg_i, dIx_l, dIx_t, cLen_l, cLen_t, cList_l, cList_t, cTuple_l, cTuple_t, cMin_i, cMax_i, atI_zero, atI_one, atI_2, atI_3, atI_4, atI_5, atI_nt, atI_lst, dEq_pl, dNe_pl, dEq_bl, dNe_bl, dIsN_non, dIsN_int, dIsN_str, dIsN_lst, dIsN_tup, dIsN_bl, dNotN_non, dNotN_int, dNotN_str, dNotN_lst, dNotN_tup, dNotN_bl, sqS_l, sqS_t, enS_l, enS_t, noIo, isLst, wipeR, isi_list_n, isi_list_b, isi_list_i, isi_list_s, isi_list_l, isi_list_t, isi_tuple_n, isi_tuple_b, isi_tuple_i, isi_tuple_s, isi_tuple_l, isi_tuple_t, isi_bool_n, isi_bool_b, isi_bool_i, isi_bool_s, isi_bool_l, isi_bool_t, isi_int_n, isi_int_b, isi_int_i, isi_int_s, isi_int_l, isi_int_t, isi_str_n, isi_str_b, isi_str_i, isi_str_s, isi_str_l, isi_str_t, List.foldr_cons, List.foldr_nil, List.getElem?_cons_zero, List.getElem?_cons_succ, List.set_cons_zero, List.set_cons_succ, List.length_cons, List.length_nil, List.replicate_succ, List.replicate_zero, List.cons_append, List.nil_append, List.map_cons, List.map_nil, Nat.reduceAdd, Nat.reduceSub, Nat.reduceLeDiff, Nat.reduceLT, sizeLine_val, ite_true, ite_false, if_true, if_false, Bool.false_eq_true, Bool.true_eq_false, decide_eq_true_eq, Bool.not_eq_true', Bool.not_true, Bool.not_false, decide_true, decide_false, decide_eq_false_iff_not, D.int.injEq, D.str.injEq, D.bl.injEq, reduceCtorEq, Int.cast_ofNat_Int, Int.reduceNeg, Int.reducePow, Int.reduceLE, Int.reduceLT, Int.reduceToNat, and_self, Int.reduceEq, Int.reduceNe, Nat.reduceEqDiff, not_false_eq_true, not_true_eq_false, Int.toNat_natCast, List.range_succ, List.range_zero, a_turn, nxP_nx, nxP_cnt, nxP_ite, ↓reduceIte, h1, alike_same]
  rw [h0]
  cases he : ef c n L with
  | some i => simp only [efD, a_kBin2, a_kBin, a_kUn, a_kIfE, a_kAndT, a_kOrT, a_kNotT, a_kCons2, a_kCons, a_kCallB, a_kTup, a_kLst, a_kDrop, a_kRet, a_kIfS, a_kSet, a_kSetF, a_kFor, a_kPar2, a_kPar, a_kAnd, a_kOr, a_kNot, a_kCh3, a_kCh2, a_kCh1, a_kSl3, a_kSl2, a_kSl1, a_koSo, a_kOfL, a_krC2, a_krC, a_krIo, a_krDef, a_kCall, a_kCallIo, a_kRaise, a_ktOf, a_kTgt, a_kRng1, a_kRng2, a_kEn, a_kZp2, a_kZp, a_kiLst, a_kLc2, a_kLc, a_kMut, a_kPut2, a_kPut, a_kDPut2, a_kDPut, a_kFldS, a_kMake, a_kLenO, a_runB, a_C, a_Bin, a_Un, a_If, a_tAnd, a_tOr, a_tNot, a_tYes, a_Nil, a_Cons, a_CallB, a_Tup, a_Lst, a_Next, a_Brk, a_Cnt, a_Bad, a_Seq, a_Drop, a_Ret, a_sIf, a_Set, a_SetF, a_Frz, a_For, a_Par, a_AndS, a_OrS, a_Not, a_ChainS, a_Sl, a_oNo, a_oSo, a_iSqS, a_iEnS, a_rNil, a_rCons, a_rDef, a_rIo, a_CallIo, a_Call, a_Raise, a_Var, a_VarB, a_tOf, a_Tgt, a_RetOwn, a_IoIx, a_iRng1, a_iRng2, a_iEn, a_iZp, a_iLst, a_Lc, a_Mut, a_Put, a_DPut, a_FldS, a_Tried, a_Make, a_LenO, a_ForD0, a_getC, a_setC, a_frzR, bind_ok', bind_exc, bind_bad, bind_ite, andS_ok, andS_exc, andS_bad, andS_ite, of_some, of_none, of_ite, sq_nx, sq_ret, sq_brk, sq_cnt, sq_exc, sq_bad, sq_ite, out_ret, out_nxF, out_exc, out_ite, back_ok, back_exc, back_ite, selB_bl, selB_ite, g_N, g_Tt, g_Tl, g_nil, g_cons, dLt_i, dLe_i, dGt_i, dGe_i, dAdd_i, dSub_i, dNeg_i, dIx_l, dIx_t, cLen_l, cLen_t, cList_l, cList_t, cTuple_l, cTuple_t, cMin_i, cMax_i, atI_zero, atI_one, atI_2, atI_3, atI_4, atI_5, atI_nt, atI_lst, dEq_pl, dNe_pl, dEq_bl, dNe_bl, dIsN_non, dIsN_int, dIsN_str, dIsN_lst, dIsN_tup, dIsN_bl, dNotN_non, dNotN_int, dNotN_str, dNotN_lst, dNotN_tup, dNotN_bl, sqS_l, sqS_t, enS_l, enS_t, noIo, isLst, wipeR, isi_list_n, isi_list_b, isi_list_i, isi_list_s, isi_list_l, isi_list_t, isi_tuple_n, isi_tuple_b, isi_tuple_i, isi_tuple_s, isi_tuple_l, isi_tuple_t, isi_bool_n, isi_bool_b, isi_bool_i, isi_bool_s, isi_bool_l, isi_bool_t, isi_int_n, isi_int_b, isi_int_i, isi_int_s, isi_int_l, isi_int_t, isi_str_n, isi_str_b, isi_str_i, isi_str_s, isi_str_l, isi_str_t, List.foldr_cons, List.foldr_nil, List.getElem?_cons_zero, List.getElem?_cons_succ, List.set_cons_zero, List.set_cons_succ, List.length_cons, List.length_nil, List.replicate_succ, List.replicate_zero, List.cons_append, List.nil_append, List.map_cons, List.map_nil, Nat.reduceAdd, Nat.reduceSub, Nat.reduceLeDiff, Nat.reduceLT, sizeLine_val, ite_true, ite_false, if_true, if_false, Bool.false_eq_true, Bool.true_eq_false, decide_eq_true_eq, Bool.not_eq_true', Bool.not_true, Bool.not_false, decide_true, decide_false, decide_eq_false_iff_not, D.int.injEq, D.str.injEq, D.bl.injEq, reduceCtorEq, Int.cast_ofNat_Int, Int.reduceNeg, Int.reducePow, Int.reduceLE, Int.reduceLT, Int.reduceToNat, and_self, Int.reduceEq, Int.reduceNe, Nat.reduceEqDiff, not_false_eq_true, not_true_eq_false, Int.toNat_natCast, List.range_succ, List.range_zero, a_turn, nxP_nx, nxP_cnt, nxP_ite, ↓reduceIte, alike_same]
  | none =>
    have hn : m_Net_len [.fz (netD c n L)] [] = .ok (.int L.length) [] := by
      simp only [m_Net_len, b_Net_len, netD, a_kBin2, a_kBin, a_kUn, a_kIfE, a_kAndT, a_kOrT, a_kNotT, a_kCons2, a_kCons, a_kCallB, a_kTup, a_kLst, a_kDrop, a_kRet, a_kIfS, a_kSet, a_kSetF, a_kFor, a_kPar2, a_kPar, a_kAnd, a_kOr, a_kNot, a_kCh3, a_kCh2, a_kCh1, a_kSl3, a_kSl2, a_kSl1, a_koSo, a_kOfL, a_krC2, a_krC, a_krIo, a_krDef, a_kCall, a_kCallIo, a_kRaise, a_ktOf, a_kTgt, a_kRng1, a_kRng2, a_kEn, a_kZp2, a_kZp, a_kiLst, a_kLc2, a_kLc, a_kMut, a_kPut2, a_kPut, a_kDPut2, a_kDPut, a_kFldS, a_kMake, a_kLenO, a_runB, a_C, a_Bin, a_Un, a_If, a_tAnd, a_tOr, a_tNot, a_tYes, a_Nil, a_Cons, a_CallB, a_Tup, a_Lst, a_Next, a_Brk, a_Cnt, a_Bad, a_Seq, a_Drop, a_Ret, a_sIf, a_Set, a_SetF, a_Frz, a_For, a_Par, a_AndS, a_OrS, a_Not, a_ChainS, a_Sl, a_oNo, a_oSo, a_iSqS, a_iEnS, a_rNil, a_rCons, a_rDef, a_rIo, a_CallIo, a_Call, a_Raise, a_Var, a_VarB, a_tOf, a_Tgt, a_RetOwn, a_IoIx, a_iRng1, a_iRng2, a_iEn, a_iZp, a_iLst, a_Lc, a_Mut, a_Put, a_DPut, a_FldS, a_Tried, a_Make, a_LenO, a_ForD0, a_getC, a_setC, a_frzR, bind_ok', bind_exc, bind_bad, bind_ite, andS_ok, andS_exc, andS_bad, andS_ite, of_some, of_none, of_ite, sq_nx, sq_ret, sq_brk, sq_cnt, sq_exc, sq_bad, sq_ite, out_ret, out_nxF, out_exc, out_ite, back_ok, back_exc, back_ite, selB_bl, selB_ite, g_N, g_Tt, g_Tl, g_nil, g_cons, dLt_i, dLe_i, dGt_i, dGe_i, dAdd_i, dSub_i, dNeg_i, dIx_l, dIx_t, cLen_l, cLen_t, cList_l, cList_t, cTuple_l, cTuple_t, cMin_i, cMax_i, atI_zero, atI_one, atI_2, atI_3, atI_4, atI_5, atI_nt, atI_lst, dEq_pl, dNe_pl, dEq_bl, dNe_bl, dIsN_non, dIsN_int, dIsN_str, dIsN_lst, dIsN_tup, dIsN_bl, dNotN_non, dNotN_int, dNotN_str, dNotN_lst, dNotN_tup, dNotN_bl, sqS_l, sqS_t, enS_l, enS_t, noIo, isLst, wipeR, isi_list_n, isi_list_b, isi_list_i, isi_list_s, isi_list_l, isi_list_t, isi_tuple_n, isi_tuple_b, isi_tuple_i, isi_tuple_s, isi_tuple_l, isi_tuple_t, isi_bool_n, isi_bool_b, isi_bool_i, isi_bool_s, isi_bool_l, isi_bool_t, isi_int_n, isi_int_b, isi_int_i, isi_int_s, isi_int_l, isi_int_t, isi_str_n, isi_str_b, isi_str_i, isi_str_s, isi_str_l, isi_str_t, List.foldr_cons, List.foldr_nil, List.getElem?_cons_zero, List.getElem?_cons_succ, List.set_cons_zero, List.set_cons_succ, List.length_cons, List.length_nil, List.replicate_succ, List.replicate_zero, List.cons_append, List.nil_append, List.map_cons, List.map_nil, Nat.reduceAdd, Nat.reduceSub, Nat.reduceLeDiff, Nat.reduceLT, sizeLine_val, ite_true, ite_false, if_true, if_false, Bool.false_eq_true, Bool.true_eq_false, decide_eq_true_eq, Bool.not_eq_true', Bool.not_true, Bool.not_false, decide_true, decide_false, decide_eq_false_iff_not, D.int.injEq, D.str.injEq, D.bl.injEq, reduceCtorEq, Int.cast_ofNat_Int, Int.reduceNeg, Int.reducePow, Int.reduceLE, Int.reduceLT, Int.reduceToNat, and_self, Int.reduceEq, Int.reduceNe, Nat.reduceEqDiff, not_false_eq_true, not_true_eq_false, Int.toNat_natCast, List.range_succ, List.range_zero, a_turn, nxP_nx, nxP_cnt, nxP_ite, ↓reduceIte, (show ∀ a b c d e : D, dFld "Net" "lines" (.ins "Net" ["hues", "knots", "lines", "entries", "table"] [a, b, c, d, e]) = some c from fun _ _ _ _ _ => rfl), List.length_map]
    have hb : (0 : Int) ≤ L.length ∧ (L.length : Int) < 2 ^ 63 := by omega
    simp only [efD, a_kBin2, a_kBin, a_kUn, a_kIfE, a_kAndT, a_kOrT, a_kNotT, a_kCons2, a_kCons, a_kCallB, a_kTup, a_kLst, a_kDrop, a_kRet, a_kIfS, a_kSet, a_kSetF, a_kFor, a_kPar2, a_kPar, a_kAnd, a_kOr, a_kNot, a_kCh3, a_kCh2, a_kCh1, a_kSl3, a_kSl2, a_kSl1, a_koSo, a_kOfL, a_krC2, a_krC, a_krIo, a_krDef, a_kCall, a_kCallIo, a_kRaise, a_ktOf, a_kTgt, a_kRng1, a_kRng2, a_kEn, a_kZp2, a_kZp, a_kiLst, a_kLc2, a_kLc, a_kMut, a_kPut2, a_kPut, a_kDPut2, a_kDPut, a_kFldS, a_kMake, a_kLenO, a_runB, a_C, a_Bin, a_Un, a_If, a_tAnd, a_tOr, a_tNot, a_tYes, a_Nil, a_Cons, a_CallB, a_Tup, a_Lst, a_Next, a_Brk, a_Cnt, a_Bad, a_Seq, a_Drop, a_Ret, a_sIf, a_Set, a_SetF, a_Frz, a_For, a_Par, a_AndS, a_OrS, a_Not, a_ChainS, a_Sl, a_oNo, a_oSo, a_iSqS, a_iEnS, a_rNil, a_rCons, a_rDef, a_rIo, a_CallIo, a_Call, a_Raise, a_Var, a_VarB, a_tOf, a_Tgt, a_RetOwn, a_IoIx, a_iRng1, a_iRng2, a_iEn, a_iZp, a_iLst, a_Lc, a_Mut, a_Put, a_DPut, a_FldS, a_Tried, a_Make, a_LenO, a_ForD0, a_getC, a_setC, a_frzR, bind_ok', bind_exc, bind_bad, bind_ite, andS_ok, andS_exc, andS_bad, andS_ite, of_some, of_none, of_ite, sq_nx, sq_ret, sq_brk, sq_cnt, sq_exc, sq_bad, sq_ite, out_ret, out_nxF, out_exc, out_ite, back_ok, back_exc, back_ite, selB_bl, selB_ite, g_N, g_Tt, g_Tl, g_nil, g_cons, dLt_i, dLe_i, dGt_i, dGe_i, dAdd_i, dSub_i, dNeg_i, dIx_l, dIx_t, cLen_l, cLen_t, cList_l, cList_t, cTuple_l, cTuple_t, cMin_i, cMax_i, atI_zero, atI_one, atI_2, atI_3, atI_4, atI_5, atI_nt, atI_lst, dEq_pl, dNe_pl, dEq_bl, dNe_bl, dIsN_non, dIsN_int, dIsN_str, dIsN_lst, dIsN_tup, dIsN_bl, dNotN_non, dNotN_int, dNotN_str, dNotN_lst, dNotN_tup, dNotN_bl, sqS_l, sqS_t, enS_l, enS_t, noIo, isLst, wipeR, isi_list_n, isi_list_b, isi_list_i, isi_list_s, isi_list_l, isi_list_t, isi_tuple_n, isi_tuple_b, isi_tuple_i, isi_tuple_s, isi_tuple_l, isi_tuple_t, isi_bool_n, isi_bool_b, isi_bool_i, isi_bool_s, isi_bool_l, isi_bool_t, isi_int_n, isi_int_b, isi_int_i, isi_int_s, isi_int_l, isi_int_t, isi_str_n, isi_str_b, isi_str_i, isi_str_s, isi_str_l, isi_str_t, List.foldr_cons, List.foldr_nil, List.getElem?_cons_zero, List.getElem?_cons_succ, List.set_cons_zero, List.set_cons_succ, List.length_cons, List.length_nil, List.replicate_succ, List.replicate_zero, List.cons_append, List.nil_append, List.map_cons, List.map_nil, Nat.reduceAdd, Nat.reduceSub, Nat.reduceLeDiff, Nat.reduceLT, sizeLine_val, ite_true, ite_false, if_true, if_false, Bool.false_eq_true, Bool.true_eq_false, decide_eq_true_eq, Bool.not_eq_true', Bool.not_true, Bool.not_false, decide_true, decide_false, decide_eq_false_iff_not, D.int.injEq, D.str.injEq, D.bl.injEq, reduceCtorEq, Int.cast_ofNat_Int, Int.reduceNeg, Int.reducePow, Int.reduceLE, Int.reduceLT, Int.reduceToNat, and_self, Int.reduceEq, Int.reduceNe, Nat.reduceEqDiff, not_false_eq_true, not_true_eq_false, Int.toNat_natCast, List.range_succ, List.range_zero, a_turn, nxP_nx, nxP_cnt, nxP_ite, ↓reduceIte]
    unfold netD at hn
    simp only [a_kBin2, a_kBin, a_kUn, a_kIfE, a_kAndT, a_kOrT, a_kNotT, a_kCons2, a_kCons, a_kCallB, a_kTup, a_kLst, a_kDrop, a_kRet, a_kIfS, a_kSet, a_kSetF, a_kFor, a_kPar2, a_kPar, a_kAnd, a_kOr, a_kNot, a_kCh3, a_kCh2, a_kCh1, a_kSl3, a_kSl2, a_kSl1, a_koSo, a_kOfL, a_krC2, a_krC, a_krIo, a_krDef, a_kCall, a_kCallIo, a_kRaise, a_ktOf, a_kTgt, a_kRng1, a_kRng2, a_kEn, a_kZp2, a_kZp, a_kiLst, a_kLc2, a_kLc, a_kMut, a_kPut2, a_kPut, a_kDPut2, a_kDPut, a_kFldS, a_kMake, a_kLenO, a_runB, a_C, a_Bin, a_Un, a_If, a_tAnd, a_tOr, a_tNot, a_tYes, a_Nil, a_Cons, a_CallB, a_Tup, a_Lst, a_Next, a_Brk, a_Cnt, a_Bad, a_Seq, a_Drop, a_Ret, a_sIf, a_Set, a_SetF, a_Frz, a_For, a_Par, a_AndS, a_OrS, a_Not, a_ChainS, a_Sl, a_oNo, a_oSo, a_iSqS, a_iEnS, a_rNil, a_rCons, a_rDef, a_rIo, a_CallIo, a_Call, a_Raise, a_Var, a_VarB, a_tOf, a_Tgt, a_RetOwn, a_IoIx, a_iRng1, a_iRng2, a_iEn, a_iZp, a_iLst, a_Lc, a_Mut, a_Put, a_DPut, a_FldS, a_Tried, a_Make, a_LenO, a_ForD0, a_getC, a_setC, a_frzR, bind_ok', bind_exc, bind_bad, bind_ite, andS_ok, andS_exc, andS_bad, andS_ite, of_some, of_none, of_ite, sq_nx, sq_ret, sq_brk, sq_cnt, sq_exc, sq_bad, sq_ite, out_ret, out_nxF, out_exc, out_ite, back_ok, back_exc, back_ite, selB_bl, selB_ite, g_N, g_Tt, g_Tl, g_nil, g_cons, dLt_i, dLe_i, dGt_i, dGe_i, dAdd_i, dSub_i, dNeg_i, dIx_l, dIx_t, cLen_l, cLen_t, cList_l, cList_t, cTuple_l, cTuple_t, cMin_i, cMax_i, atI_zero, atI_one, atI_2, atI_3, atI_4, atI_5, atI_nt, atI_lst, dEq_pl, dNe_pl, dEq_bl, dNe_bl, dIsN_non, dIsN_int, dIsN_str, dIsN_lst, dIsN_tup, dIsN_bl, dNotN_non, dNotN_int, dNotN_str, dNotN_lst, dNotN_tup, dNotN_bl, sqS_l, sqS_t, enS_l, enS_t, noIo, isLst, wipeR, isi_list_n, isi_list_b, isi_list_i, isi_list_s, isi_list_l, isi_list_t, isi_tuple_n, isi_tuple_b, isi_tuple_i, isi_tuple_s, isi_tuple_l, isi_tuple_t, isi_bool_n, isi_bool_b, isi_bool_i, isi_bool_s, isi_bool_l, isi_bool_t, isi_int_n, isi_int_b, isi_int_i, isi_int_s, isi_int_l, isi_int_t, isi_str_n, isi_str_b, isi_str_i, isi_str_s, isi_str_l, isi_str_t, List.foldr_cons, List.foldr_nil, List.getElem?_cons_zero, List.getElem?_cons_succ, List.set_cons_zero, List.set_cons_succ, List.length_cons, List.length_nil, List.replicate_succ, List.replicate_zero, List.cons_append, List.nil_append, List.map_cons, List.map_nil, Nat.reduceAdd, Nat.reduceSub, Nat.reduceLeDiff, Nat.reduceLT, sizeLine_val, ite_true, ite_false, if_true, if_false, Bool.false_eq_true, Bool.true_eq_false, decide_eq_true_eq, Bool.not_eq_true', Bool.not_true, Bool.not_false, decide_true, decide_false, decide_eq_false_iff_not, D.int.injEq, D.str.injEq, D.bl.injEq, reduceCtorEq, Int.cast_ofNat_Int, Int.reduceNeg, Int.reducePow, Int.reduceLE, Int.reduceLT, Int.reduceToNat, and_self, Int.reduceEq, Int.reduceNe, Nat.reduceEqDiff, not_false_eq_true, not_true_eq_false, Int.toNat_natCast, List.range_succ, List.range_zero, a_turn, nxP_nx, nxP_cnt, nxP_ite, ↓reduceIte, netD, hn, List.length_map]
    rw [if_pos (by omega)]
/-- one turn behind the draws -/
theorem turn_ok (c n far wide many : Int) (L : List Ed) (hl : L.length ≤ 900) (hm : ∀ k, k ≤ 3 → ef k n L = none → mix L = []) (b : D) (s t x9 x10 x11 x12 x13 x14 : Sv) :
    (lt_law_8 [s, .io 0, t, .fz (.int far), .fz (.int c), .fz (.int n), .fz (.int wide), .fz (.int many), .fz (.lst (L.map tri)), x9, x10, x11, x12, x13, x14] [b]).nxP fun ρ τ => τ = [b] ∧ ∃ t y3 y4 y5 y6 y7 y8 y9 y10 y11 y12 y13 y14, ρ = [s, .io 0, t, y3, y4, y5, y6, y7, y8, y9, y10, y11, y12, y13, y14] := by
  have q0 : ∀ E, m_l_size_fault [.fz (.tup [.int c, .int n, .lst (L.map tri), .lst E])] [] = .ok ((szD c n L.length).getD .non) [] := fun E => by rw [size_ok, List.length_map]
  have q1 : ∀ E, m_l_size_fault [.fz (.tup [.int 2, .int n, .lst (L.map tri), .lst E])] [] = .ok ((szD 2 n L.length).getD .non) [] := fun E => by rw [size_ok, List.length_map]
  have d1 : d_Net_init = [.ctup []] := rfl
  have d2 : d_complete_swaps = [.ctup []] := rfl
  have hl2 : L.length ≤ 1000 := by omega
  have r0 := rough_0 2 n L (by omega)
  have hc := complete_ok n L hl2 (hm 2 (by omega))
  simp only [lt_law_8, lt_law_7, a_kBin2, a_kBin, a_kUn, a_kIfE, a_kAndT, a_kOrT, a_kNotT, a_kCons2, a_kCons, a_kCallB, a_kTup, a_kLst, a_kDrop, a_kRet, a_kIfS, a_kSet, a_kSetF, a_kFor, a_kPar2, a_kPar, a_kAnd, a_kOr, a_kNot, a_kCh3, a_kCh2, a_kCh1, a_kSl3, a_kSl2, a_kSl1, a_koSo, a_kOfL, a_krC2, a_krC, a_krIo, a_krDef, a_kCall, a_kCallIo, a_kRaise, a_ktOf, a_kTgt, a_kRng1, a_kRng2, a_kEn, a_kZp2, a_kZp, a_kiLst, a_kLc2, a_kLc, a_kMut, a_kPut2, a_kPut, a_kDPut2, a_kDPut, a_kFldS, a_kMake, a_kLenO, a_runB, a_C, a_Bin, a_Un, a_If, a_tAnd, a_tOr, a_tNot, a_tYes, a_Nil, a_Cons, a_CallB, a_Tup, a_Lst, a_Next, a_Brk, a_Cnt, a_Bad, a_Seq, a_Drop, a_Ret, a_sIf, a_Set, a_SetF, a_Frz, a_For, a_Par, a_AndS, a_OrS, a_Not, a_ChainS, a_Sl, a_oNo, a_oSo, a_iSqS, a_iEnS, a_rNil, a_rCons, a_rDef, a_rIo, a_CallIo, a_Call, a_Raise, a_Var, a_VarB, a_tOf, a_Tgt, a_RetOwn, a_IoIx, a_iRng1, a_iRng2, a_iEn, a_iZp, a_iLst, a_Lc, a_Mut, a_Put, a_DPut, a_FldS, a_Tried, a_Make, a_LenO, a_ForD0, a_getC, a_setC, a_frzR, bind_ok', bind_exc, bind_bad, bind_ite, andS_ok, andS_exc, andS_bad, andS_ite, of_some, of_none, of_ite, sq_nx, sq_ret, sq_brk, sq_cnt, sq_exc, sq_bad, sq_ite, out_ret, out_nxF, out_exc, out_ite, back_ok, back_exc, back_ite, selB_bl, selB_ite, g_N, g_Tt, g_Tl, g_nil, g_cons, dLt_i, dLe_i, dGt_i, dGe_i, dAdd_i, dSub_i, dNeg_i, dIx_l, dIx_t, cLen_l, cLen_t, cList_l, cList_t, cTuple_l, cTuple_t, cMin_i, cMax_i, atI_zero, atI_one, atI_2, atI_3, atI_4, atI_5, atI_nt, atI_lst, dEq_pl, dNe_pl, dEq_bl, dNe_bl, dIsN_non, dIsN_int, dIsN_str, dIsN_lst, dIsN_tup, dIsN_bl, dNotN_non, dNotN_int, dNotN_str, dNotN_lst, dNotN_tup, dNotN_bl, sqS_l, sqS_t, enS_l, enS_t, noIo, isLst, wipeR, isi_list_n, isi_list_b, isi_list_i, isi_list_s, isi_list_l, isi_list_t, isi_tuple_n, isi_tuple_b, isi_tuple_i, isi_tuple_s, isi_tuple_l, isi_tuple_t, isi_bool_n, isi_bool_b, isi_bool_i, isi_bool_s, isi_bool_l, isi_bool_t, isi_int_n, isi_int_b, isi_int_i, isi_int_s, isi_int_l, isi_int_t, isi_str_n, isi_str_b, isi_str_i, isi_str_s, isi_str_l, isi_str_t, List.foldr_cons, List.foldr_nil, List.getElem?_cons_zero, List.getElem?_cons_succ, List.set_cons_zero, List.set_cons_succ, List.length_cons, List.length_nil, List.replicate_succ, List.replicate_zero, List.cons_append, List.nil_append, List.map_cons, List.map_nil, Nat.reduceAdd, Nat.reduceSub, Nat.reduceLeDiff, Nat.reduceLT, sizeLine_val, ite_true, ite_false, if_true, if_false, Bool.false_eq_true, Bool.true_eq_false, decide_eq_true_eq, Bool.not_eq_true', Bool.not_true, Bool.not_false, decide_true, decide_false, decide_eq_false_iff_not, D.int.injEq, D.str.injEq, D.bl.injEq, reduceCtorEq, Int.cast_ofNat_Int, Int.reduceNeg, Int.reducePow, Int.reduceLE, Int.reduceLT, Int.reduceToNat, and_self, Int.reduceEq, Int.reduceNe, Nat.reduceEqDiff, not_false_eq_true, not_true_eq_false, Int.toNat_natCast, List.range_succ, List.range_zero, a_turn, nxP_nx, nxP_cnt, nxP_ite, ↓reduceIte, q0, q1]
  -- the third question: the completion
  have third : ∀ (f : SE) (ρ : Rho) (τ : Tau), f ρ τ = (m_complete_swaps [.fz (.int n), .fz (.lst (L.map tri)), .fz (.ctup [])] []).back τ → eTried tab "told" "no" f ρ τ = .ok (match szD 2 n L.length with | some d => d | none => match ef 2 n L with | some i => .tup [.str "no", .str "BadNet", efD (some i)] | none => .tup [.str "told", .lst []]) τ := by
    intro f ρ τ h
    rw [hc] at h
    rcases sz_both 2 n L.length with ⟨e1, e2⟩ | ⟨e, d, e1, e2, _, _, _, e3⟩
    · rw [e1] at h; rw [e2]
      cases he : ef 2 n L with
      | none => rw [he] at h; exact tried_ok h
      | some i => rw [he] at h; exact tried_net h
    · rw [e1] at h; rw [e2]; exact e3 f ρ τ τ h
  -- what the third is held against
  have due3 : ∀ (z : D), z = (match szD 2 n L.length with | some d => d | none => match ef 2 n L with | some i => .tup [.str "no", .str "BadNet", efD (some i)] | none => .tup [.str "told", .lst []]) → alB 7 z = true := by
    intro z hz
    subst hz
    rcases sz_both 2 n L.length with ⟨e1, e2⟩ | ⟨e, d, e1, e2, e4, _, _, e3⟩
    · rw [e2]
      cases he : ef 2 n L with
      | none => exact (inferInstance : Aln 7 (.tup [.str "told", .lst []])).ok
      | some i => exact (inferInstance : Aln 7 (.tup [.str "no", .str "BadNet", efD (some i)])).ok
    · rw [e2]; exact e4
  generalize hz : (match szD 2 n L.length with | some d => d | none => match ef 2 n L with | some i => D.tup [.str "no", .str "BadNet", efD (some i)] | none => D.tup [.str "told", .lst []]) = z at third due3
  have az := due3 z rfl
  have al := alike_ok 7 z z az az
  rw [decide_eq_true rfl] at al
  -- the first two
  have first : ∀ (f : SE) (ρ : Rho) (τ : Tau), f ρ τ = (m_net_fault [.fz (.int c), .fz (.int n), .fz (.lst (L.map tri)), .fz (.lst [.tup [.int 9]])] []).back τ → eTried tab "told" "no" f ρ τ = .ok (match szD c n L.length with | some d => d | none => .tup [.str "told", faultD c n L (.tup [.str "swap", .int 0])]) τ := by
    intro f ρ τ h
    rcases sz_both c n L.length with ⟨e1, e2⟩ | ⟨e, d, e1, e2, _, _, _, e3⟩
    · rw [net_fault_9 c n L hl2 e1] at h; rw [e2]; exact tried_ok h
    · rw [net_fault_9x c n L e _ e1] at h; rw [e2]; exact e3 f ρ τ τ h
  have second : ∀ (f : SE) (ρ : Rho) (τ : Tau), f ρ τ = (match m_Net_init [.io 0, .fz (.int c), .fz (.int n), .fz (.lst (L.map tri)), .fz (.ctup [])] [.ins "Net" [] []] with | .ok .non [d] => .ok d τ | .exc e [_] => .exc e τ | _ => .bad) → eTried tab "told" "no" f ρ τ = .ok (match szD c n L.length with | some d => d | none => match ef c n L with | some i => .tup [.str "no", .str "BadNet", efD (some i)] | none => .tup [.str "told", netD c n L]) τ := by
    intro f ρ τ h
    rcases sz_both c n L.length with ⟨e1, e2⟩ | ⟨e, d, e1, e2, _, _, _, e3⟩
    · have hc3 : c ≤ 3 := by
        unfold szE at e1
        split at e1
        · cases e1
        · omega
      rw [net_init_ok c n L hl2 e1 (hm c hc3)] at h; rw [e2]
      cases he : ef c n L with
      | none => rw [he] at h; exact tried_ok h
      | some i => rw [he] at h; exact tried_net h
    · rw [net_init_x c n L e e1] at h; rw [e2]; exact e3 f ρ τ τ h
  simp only [lt_law_6, a_kBin2, a_kBin, a_kUn, a_kIfE, a_kAndT, a_kOrT, a_kNotT, a_kCons2, a_kCons, a_kCallB, a_kTup, a_kLst, a_kDrop, a_kRet, a_kIfS, a_kSet, a_kSetF, a_kFor, a_kPar2, a_kPar, a_kAnd, a_kOr, a_kNot, a_kCh3, a_kCh2, a_kCh1, a_kSl3, a_kSl2, a_kSl1, a_koSo, a_kOfL, a_krC2, a_krC, a_krIo, a_krDef, a_kCall, a_kCallIo, a_kRaise, a_ktOf, a_kTgt, a_kRng1, a_kRng2, a_kEn, a_kZp2, a_kZp, a_kiLst, a_kLc2, a_kLc, a_kMut, a_kPut2, a_kPut, a_kDPut2, a_kDPut, a_kFldS, a_kMake, a_kLenO, a_runB, a_C, a_Bin, a_Un, a_If, a_tAnd, a_tOr, a_tNot, a_tYes, a_Nil, a_Cons, a_CallB, a_Tup, a_Lst, a_Next, a_Brk, a_Cnt, a_Bad, a_Seq, a_Drop, a_Ret, a_sIf, a_Set, a_SetF, a_Frz, a_For, a_Par, a_AndS, a_OrS, a_Not, a_ChainS, a_Sl, a_oNo, a_oSo, a_iSqS, a_iEnS, a_rNil, a_rCons, a_rDef, a_rIo, a_CallIo, a_Call, a_Raise, a_Var, a_VarB, a_tOf, a_Tgt, a_RetOwn, a_IoIx, a_iRng1, a_iRng2, a_iEn, a_iZp, a_iLst, a_Lc, a_Mut, a_Put, a_DPut, a_FldS, a_Make, a_LenO, a_ForD0, a_getC, a_setC, a_frzR, bind_ok', bind_exc, bind_bad, bind_ite, andS_ok, andS_exc, andS_bad, andS_ite, of_some, of_none, of_ite, sq_nx, sq_ret, sq_brk, sq_cnt, sq_exc, sq_bad, sq_ite, out_ret, out_nxF, out_exc, out_ite, back_ok, back_exc, back_ite, selB_bl, selB_ite, g_N, g_Tt, g_Tl, g_nil, g_cons, dLt_i, dLe_i, dGt_i, dGe_i, dAdd_i, dSub_i, dNeg_i, dIx_l, dIx_t, cLen_l, cLen_t, cList_l, cList_t, cTuple_l, cTuple_t, cMin_i, cMax_i, atI_zero, atI_one, atI_2, atI_3, atI_4, atI_5, atI_nt, atI_lst, dEq_pl, dNe_pl, dEq_bl, dNe_bl, dIsN_non, dIsN_int, dIsN_str, dIsN_lst, dIsN_tup, dIsN_bl, dNotN_non, dNotN_int, dNotN_str, dNotN_lst, dNotN_tup, dNotN_bl, sqS_l, sqS_t, enS_l, enS_t, noIo, isLst, wipeR, isi_list_n, isi_list_b, isi_list_i, isi_list_s, isi_list_l, isi_list_t, isi_tuple_n, isi_tuple_b, isi_tuple_i, isi_tuple_s, isi_tuple_l, isi_tuple_t, isi_bool_n, isi_bool_b, isi_bool_i, isi_bool_s, isi_bool_l, isi_bool_t, isi_int_n, isi_int_b, isi_int_i, isi_int_s, isi_int_l, isi_int_t, isi_str_n, isi_str_b, isi_str_i, isi_str_s, isi_str_l, isi_str_t, List.foldr_cons, List.foldr_nil, List.getElem?_cons_zero, List.getElem?_cons_succ, List.set_cons_zero, List.set_cons_succ, List.length_cons, List.length_nil, List.replicate_succ, List.replicate_zero, List.cons_append, List.nil_append, List.map_cons, List.map_nil, Nat.reduceAdd, Nat.reduceSub, Nat.reduceLeDiff, Nat.reduceLT, sizeLine_val, ite_true, ite_false, if_true, if_false, Bool.false_eq_true, Bool.true_eq_false, decide_eq_true_eq, Bool.not_eq_true', Bool.not_true, Bool.not_false, decide_true, decide_false, decide_eq_false_iff_not, D.int.injEq, D.str.injEq, D.bl.injEq, reduceCtorEq, Int.cast_ofNat_Int, Int.reduceNeg, Int.reducePow, Int.reduceLE, Int.reduceLT, Int.reduceToNat, and_self, Int.reduceEq, Int.reduceNe, Nat.reduceEqDiff, not_false_eq_true, not_true_eq_false, Int.toNat_natCast, List.range_succ, List.range_zero, a_turn, nxP_nx, nxP_cnt, nxP_ite, ↓reduceIte]
  rw [first _ _ _ (by simp only [a_kBin2, a_kBin, a_kUn, a_kIfE, a_kAndT, a_kOrT, a_kNotT, a_kCons2, a_kCons, a_kCallB, a_kTup, a_kLst, a_kDrop, a_kRet, a_kIfS, a_kSet, a_kSetF, a_kFor, a_kPar2, a_kPar, a_kAnd, a_kOr, a_kNot, a_kCh3, a_kCh2, a_kCh1, a_kSl3, a_kSl2, a_kSl1, a_koSo, a_kOfL, a_krC2, a_krC, a_krIo, a_krDef, a_kCall, a_kCallIo, a_kRaise, a_ktOf, a_kTgt, a_kRng1, a_kRng2, a_kEn, a_kZp2, a_kZp, a_kiLst, a_kLc2, a_kLc, a_kMut, a_kPut2, a_kPut, a_kDPut2, a_kDPut, a_kFldS, a_kMake, a_kLenO, a_runB, a_C, a_Bin, a_Un, a_If, a_tAnd, a_tOr, a_tNot, a_tYes, a_Nil, a_Cons, a_CallB, a_Tup, a_Lst, a_Next, a_Brk, a_Cnt, a_Bad, a_Seq, a_Drop, a_Ret, a_sIf, a_Set, a_SetF, a_Frz, a_For, a_Par, a_AndS, a_OrS, a_Not, a_ChainS, a_Sl, a_oNo, a_oSo, a_iSqS, a_iEnS, a_rNil, a_rCons, a_rDef, a_rIo, a_CallIo, a_Call, a_Raise, a_Var, a_VarB, a_tOf, a_Tgt, a_RetOwn, a_IoIx, a_iRng1, a_iRng2, a_iEn, a_iZp, a_iLst, a_Lc, a_Mut, a_Put, a_DPut, a_FldS, a_Tried, a_Make, a_LenO, a_ForD0, a_getC, a_setC, a_frzR, bind_ok', bind_exc, bind_bad, bind_ite, andS_ok, andS_exc, andS_bad, andS_ite, of_some, of_none, of_ite, sq_nx, sq_ret, sq_brk, sq_cnt, sq_exc, sq_bad, sq_ite, out_ret, out_nxF, out_exc, out_ite, back_ok, back_exc, back_ite, selB_bl, selB_ite, g_N, g_Tt, g_Tl, g_nil, g_cons, dLt_i, dLe_i, dGt_i, dGe_i, dAdd_i, dSub_i, dNeg_i, dIx_l, dIx_t, cLen_l, cLen_t, cList_l, cList_t, cTuple_l, cTuple_t, cMin_i, cMax_i, atI_zero, atI_one, atI_2, atI_3, atI_4, atI_5, atI_nt, atI_lst, dEq_pl, dNe_pl, dEq_bl, dNe_bl, dIsN_non, dIsN_int, dIsN_str, dIsN_lst, dIsN_tup, dIsN_bl, dNotN_non, dNotN_int, dNotN_str, dNotN_lst, dNotN_tup, dNotN_bl, sqS_l, sqS_t, enS_l, enS_t, noIo, isLst, wipeR, isi_list_n, isi_list_b, isi_list_i, isi_list_s, isi_list_l, isi_list_t, isi_tuple_n, isi_tuple_b, isi_tuple_i, isi_tuple_s, isi_tuple_l, isi_tuple_t, isi_bool_n, isi_bool_b, isi_bool_i, isi_bool_s, isi_bool_l, isi_bool_t, isi_int_n, isi_int_b, isi_int_i, isi_int_s, isi_int_l, isi_int_t, isi_str_n, isi_str_b, isi_str_i, isi_str_s, isi_str_l, isi_str_t, List.foldr_cons, List.foldr_nil, List.getElem?_cons_zero, List.getElem?_cons_succ, List.set_cons_zero, List.set_cons_succ, List.length_cons, List.length_nil, List.replicate_succ, List.replicate_zero, List.cons_append, List.nil_append, List.map_cons, List.map_nil, Nat.reduceAdd, Nat.reduceSub, Nat.reduceLeDiff, Nat.reduceLT, sizeLine_val, ite_true, ite_false, if_true, if_false, Bool.false_eq_true, Bool.true_eq_false, decide_eq_true_eq, Bool.not_eq_true', Bool.not_true, Bool.not_false, decide_true, decide_false, decide_eq_false_iff_not, D.int.injEq, D.str.injEq, D.bl.injEq, reduceCtorEq, Int.cast_ofNat_Int, Int.reduceNeg, Int.reducePow, Int.reduceLE, Int.reduceLT, Int.reduceToNat, and_self, Int.reduceEq, Int.reduceNe, Nat.reduceEqDiff, not_false_eq_true, not_true_eq_false, Int.toNat_natCast, List.range_succ, List.range_zero, a_turn, nxP_nx, nxP_cnt, nxP_ite, ↓reduceIte])]
  simp only [lt_law_5, a_kBin2, a_kBin, a_kUn, a_kIfE, a_kAndT, a_kOrT, a_kNotT, a_kCons2, a_kCons, a_kCallB, a_kTup, a_kLst, a_kDrop, a_kRet, a_kIfS, a_kSet, a_kSetF, a_kFor, a_kPar2, a_kPar, a_kAnd, a_kOr, a_kNot, a_kCh3, a_kCh2, a_kCh1, a_kSl3, a_kSl2, a_kSl1, a_koSo, a_kOfL, a_krC2, a_krC, a_krIo, a_krDef, a_kCall, a_kCallIo, a_kRaise, a_ktOf, a_kTgt, a_kRng1, a_kRng2, a_kEn, a_kZp2, a_kZp, a_kiLst, a_kLc2, a_kLc, a_kMut, a_kPut2, a_kPut, a_kDPut2, a_kDPut, a_kFldS, a_kMake, a_kLenO, a_runB, a_C, a_Bin, a_Un, a_If, a_tAnd, a_tOr, a_tNot, a_tYes, a_Nil, a_Cons, a_CallB, a_Tup, a_Lst, a_Next, a_Brk, a_Cnt, a_Bad, a_Seq, a_Drop, a_Ret, a_sIf, a_Set, a_SetF, a_Frz, a_For, a_Par, a_AndS, a_OrS, a_Not, a_ChainS, a_Sl, a_oNo, a_oSo, a_iSqS, a_iEnS, a_rNil, a_rCons, a_rDef, a_rIo, a_CallIo, a_Call, a_Raise, a_Var, a_VarB, a_tOf, a_Tgt, a_RetOwn, a_IoIx, a_iRng1, a_iRng2, a_iEn, a_iZp, a_iLst, a_Lc, a_Mut, a_Put, a_DPut, a_FldS, a_Make, a_LenO, a_ForD0, a_getC, a_setC, a_frzR, bind_ok', bind_exc, bind_bad, bind_ite, andS_ok, andS_exc, andS_bad, andS_ite, of_some, of_none, of_ite, sq_nx, sq_ret, sq_brk, sq_cnt, sq_exc, sq_bad, sq_ite, out_ret, out_nxF, out_exc, out_ite, back_ok, back_exc, back_ite, selB_bl, selB_ite, g_N, g_Tt, g_Tl, g_nil, g_cons, dLt_i, dLe_i, dGt_i, dGe_i, dAdd_i, dSub_i, dNeg_i, dIx_l, dIx_t, cLen_l, cLen_t, cList_l, cList_t, cTuple_l, cTuple_t, cMin_i, cMax_i, atI_zero, atI_one, atI_2, atI_3, atI_4, atI_5, atI_nt, atI_lst, dEq_pl, dNe_pl, dEq_bl, dNe_bl, dIsN_non, dIsN_int, dIsN_str, dIsN_lst, dIsN_tup, dIsN_bl, dNotN_non, dNotN_int, dNotN_str, dNotN_lst, dNotN_tup, dNotN_bl, sqS_l, sqS_t, enS_l, enS_t, noIo, isLst, wipeR, isi_list_n, isi_list_b, isi_list_i, isi_list_s, isi_list_l, isi_list_t, isi_tuple_n, isi_tuple_b, isi_tuple_i, isi_tuple_s, isi_tuple_l, isi_tuple_t, isi_bool_n, isi_bool_b, isi_bool_i, isi_bool_s, isi_bool_l, isi_bool_t, isi_int_n, isi_int_b, isi_int_i, isi_int_s, isi_int_l, isi_int_t, isi_str_n, isi_str_b, isi_str_i, isi_str_s, isi_str_l, isi_str_t, List.foldr_cons, List.foldr_nil, List.getElem?_cons_zero, List.getElem?_cons_succ, List.set_cons_zero, List.set_cons_succ, List.length_cons, List.length_nil, List.replicate_succ, List.replicate_zero, List.cons_append, List.nil_append, List.map_cons, List.map_nil, Nat.reduceAdd, Nat.reduceSub, Nat.reduceLeDiff, Nat.reduceLT, sizeLine_val, ite_true, ite_false, if_true, if_false, Bool.false_eq_true, Bool.true_eq_false, decide_eq_true_eq, Bool.not_eq_true', Bool.not_true, Bool.not_false, decide_true, decide_false, decide_eq_false_iff_not, D.int.injEq, D.str.injEq, D.bl.injEq, reduceCtorEq, Int.cast_ofNat_Int, Int.reduceNeg, Int.reducePow, Int.reduceLE, Int.reduceLT, Int.reduceToNat, and_self, Int.reduceEq, Int.reduceNe, Nat.reduceEqDiff, not_false_eq_true, not_true_eq_false, Int.toNat_natCast, List.range_succ, List.range_zero, a_turn, nxP_nx, nxP_cnt, nxP_ite, ↓reduceIte]
  rw [second _ _ _ (by simp only [a_kBin2, a_kBin, a_kUn, a_kIfE, a_kAndT, a_kOrT, a_kNotT, a_kCons2, a_kCons, a_kCallB, a_kTup, a_kLst, a_kDrop, a_kRet, a_kIfS, a_kSet, a_kSetF, a_kFor, a_kPar2, a_kPar, a_kAnd, a_kOr, a_kNot, a_kCh3, a_kCh2, a_kCh1, a_kSl3, a_kSl2, a_kSl1, a_koSo, a_kOfL, a_krC2, a_krC, a_krIo, a_krDef, a_kCall, a_kCallIo, a_kRaise, a_ktOf, a_kTgt, a_kRng1, a_kRng2, a_kEn, a_kZp2, a_kZp, a_kiLst, a_kLc2, a_kLc, a_kMut, a_kPut2, a_kPut, a_kDPut2, a_kDPut, a_kFldS, a_kMake, a_kLenO, a_runB, a_C, a_Bin, a_Un, a_If, a_tAnd, a_tOr, a_tNot, a_tYes, a_Nil, a_Cons, a_CallB, a_Tup, a_Lst, a_Next, a_Brk, a_Cnt, a_Bad, a_Seq, a_Drop, a_Ret, a_sIf, a_Set, a_SetF, a_Frz, a_For, a_Par, a_AndS, a_OrS, a_Not, a_ChainS, a_Sl, a_oNo, a_oSo, a_iSqS, a_iEnS, a_rNil, a_rCons, a_rDef, a_rIo, a_CallIo, a_Call, a_Raise, a_Var, a_VarB, a_tOf, a_Tgt, a_RetOwn, a_IoIx, a_iRng1, a_iRng2, a_iEn, a_iZp, a_iLst, a_Lc, a_Mut, a_Put, a_DPut, a_FldS, a_Tried, a_Make, a_LenO, a_ForD0, a_getC, a_setC, a_frzR, bind_ok', bind_exc, bind_bad, bind_ite, andS_ok, andS_exc, andS_bad, andS_ite, of_some, of_none, of_ite, sq_nx, sq_ret, sq_brk, sq_cnt, sq_exc, sq_bad, sq_ite, out_ret, out_nxF, out_exc, out_ite, back_ok, back_exc, back_ite, selB_bl, selB_ite, g_N, g_Tt, g_Tl, g_nil, g_cons, dLt_i, dLe_i, dGt_i, dGe_i, dAdd_i, dSub_i, dNeg_i, dIx_l, dIx_t, cLen_l, cLen_t, cList_l, cList_t, cTuple_l, cTuple_t, cMin_i, cMax_i, atI_zero, atI_one, atI_2, atI_3, atI_4, atI_5, atI_nt, atI_lst, dEq_pl, dNe_pl, dEq_bl, dNe_bl, dIsN_non, dIsN_int, dIsN_str, dIsN_lst, dIsN_tup, dIsN_bl, dNotN_non, dNotN_int, dNotN_str, dNotN_lst, dNotN_tup, dNotN_bl, sqS_l, sqS_t, enS_l, enS_t, noIo, isLst, wipeR, isi_list_n, isi_list_b, isi_list_i, isi_list_s, isi_list_l, isi_list_t, isi_tuple_n, isi_tuple_b, isi_tuple_i, isi_tuple_s, isi_tuple_l, isi_tuple_t, isi_bool_n, isi_bool_b, isi_bool_i, isi_bool_s, isi_bool_l, isi_bool_t, isi_int_n, isi_int_b, isi_int_i, isi_int_s, isi_int_l, isi_int_t, isi_str_n, isi_str_b, isi_str_i, isi_str_s, isi_str_l, isi_str_t, List.foldr_cons, List.foldr_nil, List.getElem?_cons_zero, List.getElem?_cons_succ, List.set_cons_zero, List.set_cons_succ, List.length_cons, List.length_nil, List.replicate_succ, List.replicate_zero, List.cons_append, List.nil_append, List.map_cons, List.map_nil, Nat.reduceAdd, Nat.reduceSub, Nat.reduceLeDiff, Nat.reduceLT, sizeLine_val, ite_true, ite_false, if_true, if_false, Bool.false_eq_true, Bool.true_eq_false, decide_eq_true_eq, Bool.not_eq_true', Bool.not_true, Bool.not_false, decide_true, decide_false, decide_eq_false_iff_not, D.int.injEq, D.str.injEq, D.bl.injEq, reduceCtorEq, Int.cast_ofNat_Int, Int.reduceNeg, Int.reducePow, Int.reduceLE, Int.reduceLT, Int.reduceToNat, and_self, Int.reduceEq, Int.reduceNe, Nat.reduceEqDiff, not_false_eq_true, not_true_eq_false, Int.toNat_natCast, List.range_succ, List.range_zero, a_turn, nxP_nx, nxP_cnt, nxP_ite, ↓reduceIte, d1] <;> rfl)]
  simp only [a_kBin2, a_kBin, a_kUn, a_kIfE, a_kAndT, a_kOrT, a_kNotT, a_kCons2, a_kCons, a_kCallB, a_kTup, a_kLst, a_kDrop, a_kRet, a_kIfS, a_kSet, a_kSetF, a_kFor, a_kPar2, a_kPar, a_kAnd, a_kOr, a_kNot, a_kCh3, a_kCh2, a_kCh1, a_kSl3, a_kSl2, a_kSl1, a_koSo, a_kOfL, a_krC2, a_krC, a_krIo, a_krDef, a_kCall, a_kCallIo, a_kRaise, a_ktOf, a_kTgt, a_kRng1, a_kRng2, a_kEn, a_kZp2, a_kZp, a_kiLst, a_kLc2, a_kLc, a_kMut, a_kPut2, a_kPut, a_kDPut2, a_kDPut, a_kFldS, a_kMake, a_kLenO, a_runB, a_C, a_Bin, a_Un, a_If, a_tAnd, a_tOr, a_tNot, a_tYes, a_Nil, a_Cons, a_CallB, a_Tup, a_Lst, a_Next, a_Brk, a_Cnt, a_Bad, a_Seq, a_Drop, a_Ret, a_sIf, a_Set, a_SetF, a_Frz, a_For, a_Par, a_AndS, a_OrS, a_Not, a_ChainS, a_Sl, a_oNo, a_oSo, a_iSqS, a_iEnS, a_rNil, a_rCons, a_rDef, a_rIo, a_CallIo, a_Call, a_Raise, a_Var, a_VarB, a_tOf, a_Tgt, a_RetOwn, a_IoIx, a_iRng1, a_iRng2, a_iEn, a_iZp, a_iLst, a_Lc, a_Mut, a_Put, a_DPut, a_FldS, a_Make, a_LenO, a_ForD0, a_getC, a_setC, a_frzR, bind_ok', bind_exc, bind_bad, bind_ite, andS_ok, andS_exc, andS_bad, andS_ite, of_some, of_none, of_ite, sq_nx, sq_ret, sq_brk, sq_cnt, sq_exc, sq_bad, sq_ite, out_ret, out_nxF, out_exc, out_ite, back_ok, back_exc, back_ite, selB_bl, selB_ite, g_N, g_Tt, g_Tl, g_nil, g_cons, dLt_i, dLe_i, dGt_i, dGe_i, dAdd_i, dSub_i, dNeg_i, dIx_l, dIx_t, cLen_l, cLen_t, cList_l, cList_t, cTuple_l, cTuple_t, cMin_i, cMax_i, atI_zero, atI_one, atI_2, atI_3, atI_4, atI_5, atI_nt, atI_lst, dEq_pl, dNe_pl, dEq_bl, dNe_bl, dIsN_non, dIsN_int, dIsN_str, dIsN_lst, dIsN_tup, dIsN_bl, dNotN_non, dNotN_int, dNotN_str, dNotN_lst, dNotN_tup, dNotN_bl, sqS_l, sqS_t, enS_l, enS_t, noIo, isLst, wipeR, isi_list_n, isi_list_b, isi_list_i, isi_list_s, isi_list_l, isi_list_t, isi_tuple_n, isi_tuple_b, isi_tuple_i, isi_tuple_s, isi_tuple_l, isi_tuple_t, isi_bool_n, isi_bool_b, isi_bool_i, isi_bool_s, isi_bool_l, isi_bool_t, isi_int_n, isi_int_b, isi_int_i, isi_int_s, isi_int_l, isi_int_t, isi_str_n, isi_str_b, isi_str_i, isi_str_s, isi_str_l, isi_str_t, List.foldr_cons, List.foldr_nil, List.getElem?_cons_zero, List.getElem?_cons_succ, List.set_cons_zero, List.set_cons_succ, List.length_cons, List.length_nil, List.replicate_succ, List.replicate_zero, List.cons_append, List.nil_append, List.map_cons, List.map_nil, Nat.reduceAdd, Nat.reduceSub, Nat.reduceLeDiff, Nat.reduceLT, sizeLine_val, ite_true, ite_false, if_true, if_false, Bool.false_eq_true, Bool.true_eq_false, decide_eq_true_eq, Bool.not_eq_true', Bool.not_true, Bool.not_false, decide_true, decide_false, decide_eq_false_iff_not, D.int.injEq, D.str.injEq, D.bl.injEq, reduceCtorEq, Int.cast_ofNat_Int, Int.reduceNeg, Int.reducePow, Int.reduceLE, Int.reduceLT, Int.reduceToNat, and_self, Int.reduceEq, Int.reduceNe, Nat.reduceEqDiff, not_false_eq_true, not_true_eq_false, Int.toNat_natCast, List.range_succ, List.range_zero, a_turn, nxP_nx, nxP_cnt, nxP_ite, ↓reduceIte, mAppend]
  simp only [lt_law_4, a_kBin2, a_kBin, a_kUn, a_kIfE, a_kAndT, a_kOrT, a_kNotT, a_kCons2, a_kCons, a_kCallB, a_kTup, a_kLst, a_kDrop, a_kRet, a_kIfS, a_kSet, a_kSetF, a_kFor, a_kPar2, a_kPar, a_kAnd, a_kOr, a_kNot, a_kCh3, a_kCh2, a_kCh1, a_kSl3, a_kSl2, a_kSl1, a_koSo, a_kOfL, a_krC2, a_krC, a_krIo, a_krDef, a_kCall, a_kCallIo, a_kRaise, a_ktOf, a_kTgt, a_kRng1, a_kRng2, a_kEn, a_kZp2, a_kZp, a_kiLst, a_kLc2, a_kLc, a_kMut, a_kPut2, a_kPut, a_kDPut2, a_kDPut, a_kFldS, a_kMake, a_kLenO, a_runB, a_C, a_Bin, a_Un, a_If, a_tAnd, a_tOr, a_tNot, a_tYes, a_Nil, a_Cons, a_CallB, a_Tup, a_Lst, a_Next, a_Brk, a_Cnt, a_Bad, a_Seq, a_Drop, a_Ret, a_sIf, a_Set, a_SetF, a_Frz, a_For, a_Par, a_AndS, a_OrS, a_Not, a_ChainS, a_Sl, a_oNo, a_oSo, a_iSqS, a_iEnS, a_rNil, a_rCons, a_rDef, a_rIo, a_CallIo, a_Call, a_Raise, a_Var, a_VarB, a_tOf, a_Tgt, a_RetOwn, a_IoIx, a_iRng1, a_iRng2, a_iEn, a_iZp, a_iLst, a_Lc, a_Mut, a_Put, a_DPut, a_FldS, a_Make, a_LenO, a_ForD0, a_getC, a_setC, a_frzR, bind_ok', bind_exc, bind_bad, bind_ite, andS_ok, andS_exc, andS_bad, andS_ite, of_some, of_none, of_ite, sq_nx, sq_ret, sq_brk, sq_cnt, sq_exc, sq_bad, sq_ite, out_ret, out_nxF, out_exc, out_ite, back_ok, back_exc, back_ite, selB_bl, selB_ite, g_N, g_Tt, g_Tl, g_nil, g_cons, dLt_i, dLe_i, dGt_i, dGe_i, dAdd_i, dSub_i, dNeg_i, dIx_l, dIx_t, cLen_l, cLen_t, cList_l, cList_t, cTuple_l, cTuple_t, cMin_i, cMax_i, atI_zero, atI_one, atI_2, atI_3, atI_4, atI_5, atI_nt, atI_lst, dEq_pl, dNe_pl, dEq_bl, dNe_bl, dIsN_non, dIsN_int, dIsN_str, dIsN_lst, dIsN_tup, dIsN_bl, dNotN_non, dNotN_int, dNotN_str, dNotN_lst, dNotN_tup, dNotN_bl, sqS_l, sqS_t, enS_l, enS_t, noIo, isLst, wipeR, isi_list_n, isi_list_b, isi_list_i, isi_list_s, isi_list_l, isi_list_t, isi_tuple_n, isi_tuple_b, isi_tuple_i, isi_tuple_s, isi_tuple_l, isi_tuple_t, isi_bool_n, isi_bool_b, isi_bool_i, isi_bool_s, isi_bool_l, isi_bool_t, isi_int_n, isi_int_b, isi_int_i, isi_int_s, isi_int_l, isi_int_t, isi_str_n, isi_str_b, isi_str_i, isi_str_s, isi_str_l, isi_str_t, List.foldr_cons, List.foldr_nil, List.getElem?_cons_zero, List.getElem?_cons_succ, List.set_cons_zero, List.set_cons_succ, List.length_cons, List.length_nil, List.replicate_succ, List.replicate_zero, List.cons_append, List.nil_append, List.map_cons, List.map_nil, Nat.reduceAdd, Nat.reduceSub, Nat.reduceLeDiff, Nat.reduceLT, sizeLine_val, ite_true, ite_false, if_true, if_false, Bool.false_eq_true, Bool.true_eq_false, decide_eq_true_eq, Bool.not_eq_true', Bool.not_true, Bool.not_false, decide_true, decide_false, decide_eq_false_iff_not, D.int.injEq, D.str.injEq, D.bl.injEq, reduceCtorEq, Int.cast_ofNat_Int, Int.reduceNeg, Int.reducePow, Int.reduceLE, Int.reduceLT, Int.reduceToNat, and_self, Int.reduceEq, Int.reduceNe, Nat.reduceEqDiff, not_false_eq_true, not_true_eq_false, Int.toNat_natCast, List.range_succ, List.range_zero, a_turn, nxP_nx, nxP_cnt, nxP_ite, ↓reduceIte]
  rw [third _ _ _ (by simp only [a_kBin2, a_kBin, a_kUn, a_kIfE, a_kAndT, a_kOrT, a_kNotT, a_kCons2, a_kCons, a_kCallB, a_kTup, a_kLst, a_kDrop, a_kRet, a_kIfS, a_kSet, a_kSetF, a_kFor, a_kPar2, a_kPar, a_kAnd, a_kOr, a_kNot, a_kCh3, a_kCh2, a_kCh1, a_kSl3, a_kSl2, a_kSl1, a_koSo, a_kOfL, a_krC2, a_krC, a_krIo, a_krDef, a_kCall, a_kCallIo, a_kRaise, a_ktOf, a_kTgt, a_kRng1, a_kRng2, a_kEn, a_kZp2, a_kZp, a_kiLst, a_kLc2, a_kLc, a_kMut, a_kPut2, a_kPut, a_kDPut2, a_kDPut, a_kFldS, a_kMake, a_kLenO, a_runB, a_C, a_Bin, a_Un, a_If, a_tAnd, a_tOr, a_tNot, a_tYes, a_Nil, a_Cons, a_CallB, a_Tup, a_Lst, a_Next, a_Brk, a_Cnt, a_Bad, a_Seq, a_Drop, a_Ret, a_sIf, a_Set, a_SetF, a_Frz, a_For, a_Par, a_AndS, a_OrS, a_Not, a_ChainS, a_Sl, a_oNo, a_oSo, a_iSqS, a_iEnS, a_rNil, a_rCons, a_rDef, a_rIo, a_CallIo, a_Call, a_Raise, a_Var, a_VarB, a_tOf, a_Tgt, a_RetOwn, a_IoIx, a_iRng1, a_iRng2, a_iEn, a_iZp, a_iLst, a_Lc, a_Mut, a_Put, a_DPut, a_FldS, a_Tried, a_Make, a_LenO, a_ForD0, a_getC, a_setC, a_frzR, bind_ok', bind_exc, bind_bad, bind_ite, andS_ok, andS_exc, andS_bad, andS_ite, of_some, of_none, of_ite, sq_nx, sq_ret, sq_brk, sq_cnt, sq_exc, sq_bad, sq_ite, out_ret, out_nxF, out_exc, out_ite, back_ok, back_exc, back_ite, selB_bl, selB_ite, g_N, g_Tt, g_Tl, g_nil, g_cons, dLt_i, dLe_i, dGt_i, dGe_i, dAdd_i, dSub_i, dNeg_i, dIx_l, dIx_t, cLen_l, cLen_t, cList_l, cList_t, cTuple_l, cTuple_t, cMin_i, cMax_i, atI_zero, atI_one, atI_2, atI_3, atI_4, atI_5, atI_nt, atI_lst, dEq_pl, dNe_pl, dEq_bl, dNe_bl, dIsN_non, dIsN_int, dIsN_str, dIsN_lst, dIsN_tup, dIsN_bl, dNotN_non, dNotN_int, dNotN_str, dNotN_lst, dNotN_tup, dNotN_bl, sqS_l, sqS_t, enS_l, enS_t, noIo, isLst, wipeR, isi_list_n, isi_list_b, isi_list_i, isi_list_s, isi_list_l, isi_list_t, isi_tuple_n, isi_tuple_b, isi_tuple_i, isi_tuple_s, isi_tuple_l, isi_tuple_t, isi_bool_n, isi_bool_b, isi_bool_i, isi_bool_s, isi_bool_l, isi_bool_t, isi_int_n, isi_int_b, isi_int_i, isi_int_s, isi_int_l, isi_int_t, isi_str_n, isi_str_b, isi_str_i, isi_str_s, isi_str_l, isi_str_t, List.foldr_cons, List.foldr_nil, List.getElem?_cons_zero, List.getElem?_cons_succ, List.set_cons_zero, List.set_cons_succ, List.length_cons, List.length_nil, List.replicate_succ, List.replicate_zero, List.cons_append, List.nil_append, List.map_cons, List.map_nil, Nat.reduceAdd, Nat.reduceSub, Nat.reduceLeDiff, Nat.reduceLT, sizeLine_val, ite_true, ite_false, if_true, if_false, Bool.false_eq_true, Bool.true_eq_false, decide_eq_true_eq, Bool.not_eq_true', Bool.not_true, Bool.not_false, decide_true, decide_false, decide_eq_false_iff_not, D.int.injEq, D.str.injEq, D.bl.injEq, reduceCtorEq, Int.cast_ofNat_Int, Int.reduceNeg, Int.reducePow, Int.reduceLE, Int.reduceLT, Int.reduceToNat, and_self, Int.reduceEq, Int.reduceNe, Nat.reduceEqDiff, not_false_eq_true, not_true_eq_false, Int.toNat_natCast, List.range_succ, List.range_zero, a_turn, nxP_nx, nxP_cnt, nxP_ite, ↓reduceIte, d2])]
  simp only [a_kBin2, a_kBin, a_kUn, a_kIfE, a_kAndT, a_kOrT, a_kNotT, a_kCons2, a_kCons, a_kCallB, a_kTup, a_kLst, a_kDrop, a_kRet, a_kIfS, a_kSet, a_kSetF, a_kFor, a_kPar2, a_kPar, a_kAnd, a_kOr, a_kNot, a_kCh3, a_kCh2, a_kCh1, a_kSl3, a_kSl2, a_kSl1, a_koSo, a_kOfL, a_krC2, a_krC, a_krIo, a_krDef, a_kCall, a_kCallIo, a_kRaise, a_ktOf, a_kTgt, a_kRng1, a_kRng2, a_kEn, a_kZp2, a_kZp, a_kiLst, a_kLc2, a_kLc, a_kMut, a_kPut2, a_kPut, a_kDPut2, a_kDPut, a_kFldS, a_kMake, a_kLenO, a_runB, a_C, a_Bin, a_Un, a_If, a_tAnd, a_tOr, a_tNot, a_tYes, a_Nil, a_Cons, a_CallB, a_Tup, a_Lst, a_Next, a_Brk, a_Cnt, a_Bad, a_Seq, a_Drop, a_Ret, a_sIf, a_Set, a_SetF, a_Frz, a_For, a_Par, a_AndS, a_OrS, a_Not, a_ChainS, a_Sl, a_oNo, a_oSo, a_iSqS, a_iEnS, a_rNil, a_rCons, a_rDef, a_rIo, a_CallIo, a_Call, a_Raise, a_Var, a_VarB, a_tOf, a_Tgt, a_RetOwn, a_IoIx, a_iRng1, a_iRng2, a_iEn, a_iZp, a_iLst, a_Lc, a_Mut, a_Put, a_DPut, a_FldS, a_Make, a_LenO, a_ForD0, a_getC, a_setC, a_frzR, bind_ok', bind_exc, bind_bad, bind_ite, andS_ok, andS_exc, andS_bad, andS_ite, of_some, of_none, of_ite, sq_nx, sq_ret, sq_brk, sq_cnt, sq_exc, sq_bad, sq_ite, out_ret, out_nxF, out_exc, out_ite, back_ok, back_exc, back_ite, selB_bl, selB_ite, g_N, g_Tt, g_Tl, g_nil, g_cons, dLt_i, dLe_i, dGt_i, dGe_i, dAdd_i, dSub_i, dNeg_i, dIx_l, dIx_t, cLen_l, cLen_t, cList_l, cList_t, cTuple_l, cTuple_t, cMin_i, cMax_i, atI_zero, atI_one, atI_2, atI_3, atI_4, atI_5, atI_nt, atI_lst, dEq_pl, dNe_pl, dEq_bl, dNe_bl, dIsN_non, dIsN_int, dIsN_str, dIsN_lst, dIsN_tup, dIsN_bl, dNotN_non, dNotN_int, dNotN_str, dNotN_lst, dNotN_tup, dNotN_bl, sqS_l, sqS_t, enS_l, enS_t, noIo, isLst, wipeR, isi_list_n, isi_list_b, isi_list_i, isi_list_s, isi_list_l, isi_list_t, isi_tuple_n, isi_tuple_b, isi_tuple_i, isi_tuple_s, isi_tuple_l, isi_tuple_t, isi_bool_n, isi_bool_b, isi_bool_i, isi_bool_s, isi_bool_l, isi_bool_t, isi_int_n, isi_int_b, isi_int_i, isi_int_s, isi_int_l, isi_int_t, isi_str_n, isi_str_b, isi_str_i, isi_str_s, isi_str_l, isi_str_t, List.foldr_cons, List.foldr_nil, List.getElem?_cons_zero, List.getElem?_cons_succ, List.set_cons_zero, List.set_cons_succ, List.length_cons, List.length_nil, List.replicate_succ, List.replicate_zero, List.cons_append, List.nil_append, List.map_cons, List.map_nil, Nat.reduceAdd, Nat.reduceSub, Nat.reduceLeDiff, Nat.reduceLT, sizeLine_val, ite_true, ite_false, if_true, if_false, Bool.false_eq_true, Bool.true_eq_false, decide_eq_true_eq, Bool.not_eq_true', Bool.not_true, Bool.not_false, decide_true, decide_false, decide_eq_false_iff_not, D.int.injEq, D.str.injEq, D.bl.injEq, reduceCtorEq, Int.cast_ofNat_Int, Int.reduceNeg, Int.reducePow, Int.reduceLE, Int.reduceLT, Int.reduceToNat, and_self, Int.reduceEq, Int.reduceNe, Nat.reduceEqDiff, not_false_eq_true, not_true_eq_false, Int.toNat_natCast, List.range_succ, List.range_zero, a_turn, nxP_nx, nxP_cnt, nxP_ite, ↓reduceIte, mAppend]
  generalize hx : (match szD c n L.length with | some d => d | none => D.tup [.str "told", faultD c n L (.tup [.str "swap", .int 0])]) = x
  generalize hy : (match szD c n L.length with | some d => d | none => match ef c n L with | some i => D.tup [.str "no", .str "BadNet", efD (some i)] | none => .tup [.str "told", netD c n L]) = y
  have sl : dSl (.lst [x, y, z]) none (some 2) = some (.lst [x, y]) := rfl
  -- the third is as it is due
  have last : ∀ (x11 x13 x14 : Sv), (lt_law_0 [s, .io 0, t, .fz (.int far), .fz (.int c), .fz (.int n), .fz (.int wide), .fz (.int many), .fz (.lst (L.map tri)), .fz (.tup [.int c, .int n, .lst (L.map tri), .lst []]), .fz ((szD c n L.length).getD .non), x11, .own (.lst [x, y, z]), x13, x14] [b]).nxP fun ρ τ => τ = [b] ∧ ∃ t y3 y4 y5 y6 y7 y8 y9 y10 y11 y12 y13 y14, ρ = [s, .io 0, t, y3, y4, y5, y6, y7, y8, y9, y10, y11, y12, y13, y14] := by
    intro x11 x13 x14
    rcases sz_both c n L.length with ⟨e1, e2⟩ | ⟨e, d, e1, e2, e4, e5, e6, e3⟩
    · have sz := sized_ok c n L hl z
      rw [e2] at hx hy ⊢
      have hx' : D.tup [.str "told", faultD c n L (.tup [.str "swap", .int 0])] = x := hx
      have hy' : (match ef c n L with | some i => D.tup [.str "no", .str "BadNet", efD (some i)] | none => .tup [.str "told", netD c n L]) = y := hy
      rw [hx', hy'] at sz
      simp only [lt_law_0, a_kBin2, a_kBin, a_kUn, a_kIfE, a_kAndT, a_kOrT, a_kNotT, a_kCons2, a_kCons, a_kCallB, a_kTup, a_kLst, a_kDrop, a_kRet, a_kIfS, a_kSet, a_kSetF, a_kFor, a_kPar2, a_kPar, a_kAnd, a_kOr, a_kNot, a_kCh3, a_kCh2, a_kCh1, a_kSl3, a_kSl2, a_kSl1, a_koSo, a_kOfL, a_krC2, a_krC, a_krIo, a_krDef, a_kCall, a_kCallIo, a_kRaise, a_ktOf, a_kTgt, a_kRng1, a_kRng2, a_kEn, a_kZp2, a_kZp, a_kiLst, a_kLc2, a_kLc, a_kMut, a_kPut2, a_kPut, a_kDPut2, a_kDPut, a_kFldS, a_kMake, a_kLenO, a_runB, a_C, a_Bin, a_Un, a_If, a_tAnd, a_tOr, a_tNot, a_tYes, a_Nil, a_Cons, a_CallB, a_Tup, a_Lst, a_Next, a_Brk, a_Cnt, a_Bad, a_Seq, a_Drop, a_Ret, a_sIf, a_Set, a_SetF, a_Frz, a_For, a_Par, a_AndS, a_OrS, a_Not, a_ChainS, a_Sl, a_oNo, a_oSo, a_iSqS, a_iEnS, a_rNil, a_rCons, a_rDef, a_rIo, a_CallIo, a_Call, a_Raise, a_Var, a_VarB, a_tOf, a_Tgt, a_RetOwn, a_IoIx, a_iRng1, a_iRng2, a_iEn, a_iZp, a_iLst, a_Lc, a_Mut, a_Put, a_DPut, a_FldS, a_Tried, a_Make, a_LenO, a_ForD0, a_getC, a_setC, a_frzR, bind_ok', bind_exc, bind_bad, bind_ite, andS_ok, andS_exc, andS_bad, andS_ite, of_some, of_none, of_ite, sq_nx, sq_ret, sq_brk, sq_cnt, sq_exc, sq_bad, sq_ite, out_ret, out_nxF, out_exc, out_ite, back_ok, back_exc, back_ite, selB_bl, selB_ite, g_N, g_Tt, g_Tl, g_nil, g_cons, dLt_i, dLe_i, dGt_i, dGe_i, dAdd_i, dSub_i, dNeg_i, dIx_l, dIx_t, cLen_l, cLen_t, cList_l, cList_t, cTuple_l, cTuple_t, cMin_i, cMax_i, atI_zero, atI_one, atI_2, atI_3, atI_4, atI_5, atI_nt, atI_lst, dEq_pl, dNe_pl, dEq_bl, dNe_bl, dIsN_non, dIsN_int, dIsN_str, dIsN_lst, dIsN_tup, dIsN_bl, dNotN_non, dNotN_int, dNotN_str, dNotN_lst, dNotN_tup, dNotN_bl, sqS_l, sqS_t, enS_l, enS_t, noIo, isLst, wipeR, isi_list_n, isi_list_b, isi_list_i, isi_list_s, isi_list_l, isi_list_t, isi_tuple_n, isi_tuple_b, isi_tuple_i, isi_tuple_s, isi_tuple_l, isi_tuple_t, isi_bool_n, isi_bool_b, isi_bool_i, isi_bool_s, isi_bool_l, isi_bool_t, isi_int_n, isi_int_b, isi_int_i, isi_int_s, isi_int_l, isi_int_t, isi_str_n, isi_str_b, isi_str_i, isi_str_s, isi_str_l, isi_str_t, List.foldr_cons, List.foldr_nil, List.getElem?_cons_zero, List.getElem?_cons_succ, List.set_cons_zero, List.set_cons_succ, List.length_cons, List.length_nil, List.replicate_succ, List.replicate_zero, List.cons_append, List.nil_append, List.map_cons, List.map_nil, Nat.reduceAdd, Nat.reduceSub, Nat.reduceLeDiff, Nat.reduceLT, sizeLine_val, ite_true, ite_false, if_true, if_false, Bool.false_eq_true, Bool.true_eq_false, decide_eq_true_eq, Bool.not_eq_true', Bool.not_true, Bool.not_false, decide_true, decide_false, decide_eq_false_iff_not, D.int.injEq, D.str.injEq, D.bl.injEq, reduceCtorEq, Int.cast_ofNat_Int, Int.reduceNeg, Int.reducePow, Int.reduceLE, Int.reduceLT, Int.reduceToNat, and_self, Int.reduceEq, Int.reduceNe, Nat.reduceEqDiff, not_false_eq_true, not_true_eq_false, Int.toNat_natCast, List.range_succ, List.range_zero, a_turn, nxP_nx, nxP_cnt, nxP_ite, ↓reduceIte, Option.getD_none, sz]
      exact ⟨trivial, _, _, _, _, _, _, _, _, _, _, _, _, _, rfl⟩
    · rw [e2] at hx hy ⊢
      have hx' : d = x := hx
      have hy' : d = y := hy
      subst hx' hy'
      have ad : Aln 6 d := ⟨by
        have : alB 6 d = true := by
          unfold szD at e2
          have k1 : ∀ v : Int, alB 6 (.tup [.str "no", .str "BadNumber", .int v]) = true := fun v => (inferInstance : Aln 6 (.tup [.str "no", .str "BadNumber", .int v])).ok
          have k2 : ∀ v : Int, alB 6 (.tup [.str "no", .str "Full", .int v]) = true := fun v => (inferInstance : Aln 6 (.tup [.str "no", .str "Full", .int v])).ok
          (repeat' split at e2) <;> cases e2 <;> first | exact k1 _ | exact k2 _
        exact this⟩
      have al2 := alike_ok 7 (.lst [d, d]) (.lst [d, d]) (inferInstance : Aln 7 (.lst [d, d])).ok (inferInstance : Aln 7 (.lst [d, d])).ok
      rw [decide_eq_true rfl] at al2
      have sl : dSl (.lst [d, d, z]) none (some 2) = some (.lst [d, d]) := rfl
      simp only [lt_law_0, a_kBin2, a_kBin, a_kUn, a_kIfE, a_kAndT, a_kOrT, a_kNotT, a_kCons2, a_kCons, a_kCallB, a_kTup, a_kLst, a_kDrop, a_kRet, a_kIfS, a_kSet, a_kSetF, a_kFor, a_kPar2, a_kPar, a_kAnd, a_kOr, a_kNot, a_kCh3, a_kCh2, a_kCh1, a_kSl3, a_kSl2, a_kSl1, a_koSo, a_kOfL, a_krC2, a_krC, a_krIo, a_krDef, a_kCall, a_kCallIo, a_kRaise, a_ktOf, a_kTgt, a_kRng1, a_kRng2, a_kEn, a_kZp2, a_kZp, a_kiLst, a_kLc2, a_kLc, a_kMut, a_kPut2, a_kPut, a_kDPut2, a_kDPut, a_kFldS, a_kMake, a_kLenO, a_runB, a_C, a_Bin, a_Un, a_If, a_tAnd, a_tOr, a_tNot, a_tYes, a_Nil, a_Cons, a_CallB, a_Tup, a_Lst, a_Next, a_Brk, a_Cnt, a_Bad, a_Seq, a_Drop, a_Ret, a_sIf, a_Set, a_SetF, a_Frz, a_For, a_Par, a_AndS, a_OrS, a_Not, a_ChainS, a_Sl, a_oNo, a_oSo, a_iSqS, a_iEnS, a_rNil, a_rCons, a_rDef, a_rIo, a_CallIo, a_Call, a_Raise, a_Var, a_VarB, a_tOf, a_Tgt, a_RetOwn, a_IoIx, a_iRng1, a_iRng2, a_iEn, a_iZp, a_iLst, a_Lc, a_Mut, a_Put, a_DPut, a_FldS, a_Tried, a_Make, a_LenO, a_ForD0, a_getC, a_setC, a_frzR, bind_ok', bind_exc, bind_bad, bind_ite, andS_ok, andS_exc, andS_bad, andS_ite, of_some, of_none, of_ite, sq_nx, sq_ret, sq_brk, sq_cnt, sq_exc, sq_bad, sq_ite, out_ret, out_nxF, out_exc, out_ite, back_ok, back_exc, back_ite, selB_bl, selB_ite, g_N, g_Tt, g_Tl, g_nil, g_cons, dLt_i, dLe_i, dGt_i, dGe_i, dAdd_i, dSub_i, dNeg_i, dIx_l, dIx_t, cLen_l, cLen_t, cList_l, cList_t, cTuple_l, cTuple_t, cMin_i, cMax_i, atI_zero, atI_one, atI_2, atI_3, atI_4, atI_5, atI_nt, atI_lst, dEq_pl, dNe_pl, dEq_bl, dNe_bl, dIsN_non, dIsN_int, dIsN_str, dIsN_lst, dIsN_tup, dIsN_bl, dNotN_non, dNotN_int, dNotN_str, dNotN_lst, dNotN_tup, dNotN_bl, sqS_l, sqS_t, enS_l, enS_t, noIo, isLst, wipeR, isi_list_n, isi_list_b, isi_list_i, isi_list_s, isi_list_l, isi_list_t, isi_tuple_n, isi_tuple_b, isi_tuple_i, isi_tuple_s, isi_tuple_l, isi_tuple_t, isi_bool_n, isi_bool_b, isi_bool_i, isi_bool_s, isi_bool_l, isi_bool_t, isi_int_n, isi_int_b, isi_int_i, isi_int_s, isi_int_l, isi_int_t, isi_str_n, isi_str_b, isi_str_i, isi_str_s, isi_str_l, isi_str_t, List.foldr_cons, List.foldr_nil, List.getElem?_cons_zero, List.getElem?_cons_succ, List.set_cons_zero, List.set_cons_succ, List.length_cons, List.length_nil, List.replicate_succ, List.replicate_zero, List.cons_append, List.nil_append, List.map_cons, List.map_nil, Nat.reduceAdd, Nat.reduceSub, Nat.reduceLeDiff, Nat.reduceLT, sizeLine_val, ite_true, ite_false, if_true, if_false, Bool.false_eq_true, Bool.true_eq_false, decide_eq_true_eq, Bool.not_eq_true', Bool.not_true, Bool.not_false, decide_true, decide_false, decide_eq_false_iff_not, D.int.injEq, D.str.injEq, D.bl.injEq, reduceCtorEq, Int.cast_ofNat_Int, Int.reduceNeg, Int.reducePow, Int.reduceLE, Int.reduceLT, Int.reduceToNat, and_self, Int.reduceEq, Int.reduceNe, Nat.reduceEqDiff, not_false_eq_true, not_true_eq_false, Int.toNat_natCast, List.range_succ, List.range_zero, a_turn, nxP_nx, nxP_cnt, nxP_ite, ↓reduceIte, Option.getD_some, e5, e6, sl, al2]
      exact ⟨trivial, _, _, _, _, _, _, _, _, _, _, _, _, _, rfl⟩
  rcases sz_both 2 n L.length with ⟨e1, e2⟩ | ⟨e, d, e1, e2, e4, e5, e6, e3⟩
  · rw [e2] at hz ⊢
    have hz' : (match ef 2 n L with | some i => D.tup [.str "no", .str "BadNet", efD (some i)] | none => D.tup [.str "told", .lst []]) = z := hz
    simp only [lt_law_3, lt_law_2, lt_law_1, a_kBin2, a_kBin, a_kUn, a_kIfE, a_kAndT, a_kOrT, a_kNotT, a_kCons2, a_kCons, a_kCallB, a_kTup, a_kLst, a_kDrop, a_kRet, a_kIfS, a_kSet, a_kSetF, a_kFor, a_kPar2, a_kPar, a_kAnd, a_kOr, a_kNot, a_kCh3, a_kCh2, a_kCh1, a_kSl3, a_kSl2, a_kSl1, a_koSo, a_kOfL, a_krC2, a_krC, a_krIo, a_krDef, a_kCall, a_kCallIo, a_kRaise, a_ktOf, a_kTgt, a_kRng1, a_kRng2, a_kEn, a_kZp2, a_kZp, a_kiLst, a_kLc2, a_kLc, a_kMut, a_kPut2, a_kPut, a_kDPut2, a_kDPut, a_kFldS, a_kMake, a_kLenO, a_runB, a_C, a_Bin, a_Un, a_If, a_tAnd, a_tOr, a_tNot, a_tYes, a_Nil, a_Cons, a_CallB, a_Tup, a_Lst, a_Next, a_Brk, a_Cnt, a_Bad, a_Seq, a_Drop, a_Ret, a_sIf, a_Set, a_SetF, a_Frz, a_For, a_Par, a_AndS, a_OrS, a_Not, a_ChainS, a_Sl, a_oNo, a_oSo, a_iSqS, a_iEnS, a_rNil, a_rCons, a_rDef, a_rIo, a_CallIo, a_Call, a_Raise, a_Var, a_VarB, a_tOf, a_Tgt, a_RetOwn, a_IoIx, a_iRng1, a_iRng2, a_iEn, a_iZp, a_iLst, a_Lc, a_Mut, a_Put, a_DPut, a_FldS, a_Make, a_LenO, a_ForD0, a_getC, a_setC, a_frzR, bind_ok', bind_exc, bind_bad, bind_ite, andS_ok, andS_exc, andS_bad, andS_ite, of_some, of_none, of_ite, sq_nx, sq_ret, sq_brk, sq_cnt, sq_exc, sq_bad, sq_ite, out_ret, out_nxF, out_exc, out_ite, back_ok, back_exc, back_ite, selB_bl, selB_ite, g_N, g_Tt, g_Tl, g_nil, g_cons, dLt_i, dLe_i, dGt_i, dGe_i, dAdd_i, dSub_i, dNeg_i, dIx_l, dIx_t, cLen_l, cLen_t, cList_l, cList_t, cTuple_l, cTuple_t, cMin_i, cMax_i, atI_zero, atI_one, atI_2, atI_3, atI_4, atI_5, atI_nt, atI_lst, dEq_pl, dNe_pl, dEq_bl, dNe_bl, dIsN_non, dIsN_int, dIsN_str, dIsN_lst, dIsN_tup, dIsN_bl, dNotN_non, dNotN_int, dNotN_str, dNotN_lst, dNotN_tup, dNotN_bl, sqS_l, sqS_t, enS_l, enS_t, noIo, isLst, wipeR, isi_list_n, isi_list_b, isi_list_i, isi_list_s, isi_list_l, isi_list_t, isi_tuple_n, isi_tuple_b, isi_tuple_i, isi_tuple_s, isi_tuple_l, isi_tuple_t, isi_bool_n, isi_bool_b, isi_bool_i, isi_bool_s, isi_bool_l, isi_bool_t, isi_int_n, isi_int_b, isi_int_i, isi_int_s, isi_int_l, isi_int_t, isi_str_n, isi_str_b, isi_str_i, isi_str_s, isi_str_l, isi_str_t, List.foldr_cons, List.foldr_nil, List.getElem?_cons_zero, List.getElem?_cons_succ, List.set_cons_zero, List.set_cons_succ, List.length_cons, List.length_nil, List.replicate_succ, List.replicate_zero, List.cons_append, List.nil_append, List.map_cons, List.map_nil, Nat.reduceAdd, Nat.reduceSub, Nat.reduceLeDiff, Nat.reduceLT, sizeLine_val, ite_true, ite_false, if_true, if_false, Bool.false_eq_true, Bool.true_eq_false, decide_eq_true_eq, Bool.not_eq_true', Bool.not_true, Bool.not_false, decide_true, decide_false, decide_eq_false_iff_not, D.int.injEq, D.str.injEq, D.bl.injEq, reduceCtorEq, Int.cast_ofNat_Int, Int.reduceNeg, Int.reducePow, Int.reduceLE, Int.reduceLT, Int.reduceToNat, and_self, Int.reduceEq, Int.reduceNe, Nat.reduceEqDiff, not_false_eq_true, not_true_eq_false, Int.toNat_natCast, List.range_succ, List.range_zero, a_turn, nxP_nx, nxP_cnt, nxP_ite, ↓reduceIte, r0, Option.getD_none]
    cases he : ef 2 n L with
    | none =>
      rw [he] at hz'
      have hz2 : D.tup [.str "told", .lst []] = z := hz'
      simp only [efD, a_kBin2, a_kBin, a_kUn, a_kIfE, a_kAndT, a_kOrT, a_kNotT, a_kCons2, a_kCons, a_kCallB, a_kTup, a_kLst, a_kDrop, a_kRet, a_kIfS, a_kSet, a_kSetF, a_kFor, a_kPar2, a_kPar, a_kAnd, a_kOr, a_kNot, a_kCh3, a_kCh2, a_kCh1, a_kSl3, a_kSl2, a_kSl1, a_koSo, a_kOfL, a_krC2, a_krC, a_krIo, a_krDef, a_kCall, a_kCallIo, a_kRaise, a_ktOf, a_kTgt, a_kRng1, a_kRng2, a_kEn, a_kZp2, a_kZp, a_kiLst, a_kLc2, a_kLc, a_kMut, a_kPut2, a_kPut, a_kDPut2, a_kDPut, a_kFldS, a_kMake, a_kLenO, a_runB, a_C, a_Bin, a_Un, a_If, a_tAnd, a_tOr, a_tNot, a_tYes, a_Nil, a_Cons, a_CallB, a_Tup, a_Lst, a_Next, a_Brk, a_Cnt, a_Bad, a_Seq, a_Drop, a_Ret, a_sIf, a_Set, a_SetF, a_Frz, a_For, a_Par, a_AndS, a_OrS, a_Not, a_ChainS, a_Sl, a_oNo, a_oSo, a_iSqS, a_iEnS, a_rNil, a_rCons, a_rDef, a_rIo, a_CallIo, a_Call, a_Raise, a_Var, a_VarB, a_tOf, a_Tgt, a_RetOwn, a_IoIx, a_iRng1, a_iRng2, a_iEn, a_iZp, a_iLst, a_Lc, a_Mut, a_Put, a_DPut, a_FldS, a_Tried, a_Make, a_LenO, a_ForD0, a_getC, a_setC, a_frzR, bind_ok', bind_exc, bind_bad, bind_ite, andS_ok, andS_exc, andS_bad, andS_ite, of_some, of_none, of_ite, sq_nx, sq_ret, sq_brk, sq_cnt, sq_exc, sq_bad, sq_ite, out_ret, out_nxF, out_exc, out_ite, back_ok, back_exc, back_ite, selB_bl, selB_ite, g_N, g_Tt, g_Tl, g_nil, g_cons, dLt_i, dLe_i, dGt_i, dGe_i, dAdd_i, dSub_i, dNeg_i, dIx_l, dIx_t, cLen_l, cLen_t, cList_l, cList_t, cTuple_l, cTuple_t, cMin_i, cMax_i, atI_zero, atI_one, atI_2, atI_3, atI_4, atI_5, atI_nt, atI_lst, dEq_pl, dNe_pl, dEq_bl, dNe_bl, dIsN_non, dIsN_int, dIsN_str, dIsN_lst, dIsN_tup, dIsN_bl, dNotN_non, dNotN_int, dNotN_str, dNotN_lst, dNotN_tup, dNotN_bl, sqS_l, sqS_t, enS_l, enS_t, noIo, isLst, wipeR, isi_list_n, isi_list_b, isi_list_i, isi_list_s, isi_list_l, isi_list_t, isi_tuple_n, isi_tuple_b, isi_tuple_i, isi_tuple_s, isi_tuple_l, isi_tuple_t, isi_bool_n, isi_bool_b, isi_bool_i, isi_bool_s, isi_bool_l, isi_bool_t, isi_int_n, isi_int_b, isi_int_i, isi_int_s, isi_int_l, isi_int_t, isi_str_n, isi_str_b, isi_str_i, isi_str_s, isi_str_l, isi_str_t, List.foldr_cons, List.foldr_nil, List.getElem?_cons_zero, List.getElem?_cons_succ, List.set_cons_zero, List.set_cons_succ, List.length_cons, List.length_nil, List.replicate_succ, List.replicate_zero, List.cons_append, List.nil_append, List.map_cons, List.map_nil, Nat.reduceAdd, Nat.reduceSub, Nat.reduceLeDiff, Nat.reduceLT, sizeLine_val, ite_true, ite_false, if_true, if_false, Bool.false_eq_true, Bool.true_eq_false, decide_eq_true_eq, Bool.not_eq_true', Bool.not_true, Bool.not_false, decide_true, decide_false, decide_eq_false_iff_not, D.int.injEq, D.str.injEq, D.bl.injEq, reduceCtorEq, Int.cast_ofNat_Int, Int.reduceNeg, Int.reducePow, Int.reduceLE, Int.reduceLT, Int.reduceToNat, and_self, Int.reduceEq, Int.reduceNe, Nat.reduceEqDiff, not_false_eq_true, not_true_eq_false, Int.toNat_natCast, List.range_succ, List.range_zero, a_turn, nxP_nx, nxP_cnt, nxP_ite, ↓reduceIte, hz2, al]
      exact last _ _ _
    | some i =>
      rw [he] at hz'
      have hz2 : D.tup [.str "no", .str "BadNet", efD (some i)] = z := hz'
      unfold efD at hz2
      simp only [efD, a_kBin2, a_kBin, a_kUn, a_kIfE, a_kAndT, a_kOrT, a_kNotT, a_kCons2, a_kCons, a_kCallB, a_kTup, a_kLst, a_kDrop, a_kRet, a_kIfS, a_kSet, a_kSetF, a_kFor, a_kPar2, a_kPar, a_kAnd, a_kOr, a_kNot, a_kCh3, a_kCh2, a_kCh1, a_kSl3, a_kSl2, a_kSl1, a_koSo, a_kOfL, a_krC2, a_krC, a_krIo, a_krDef, a_kCall, a_kCallIo, a_kRaise, a_ktOf, a_kTgt, a_kRng1, a_kRng2, a_kEn, a_kZp2, a_kZp, a_kiLst, a_kLc2, a_kLc, a_kMut, a_kPut2, a_kPut, a_kDPut2, a_kDPut, a_kFldS, a_kMake, a_kLenO, a_runB, a_C, a_Bin, a_Un, a_If, a_tAnd, a_tOr, a_tNot, a_tYes, a_Nil, a_Cons, a_CallB, a_Tup, a_Lst, a_Next, a_Brk, a_Cnt, a_Bad, a_Seq, a_Drop, a_Ret, a_sIf, a_Set, a_SetF, a_Frz, a_For, a_Par, a_AndS, a_OrS, a_Not, a_ChainS, a_Sl, a_oNo, a_oSo, a_iSqS, a_iEnS, a_rNil, a_rCons, a_rDef, a_rIo, a_CallIo, a_Call, a_Raise, a_Var, a_VarB, a_tOf, a_Tgt, a_RetOwn, a_IoIx, a_iRng1, a_iRng2, a_iEn, a_iZp, a_iLst, a_Lc, a_Mut, a_Put, a_DPut, a_FldS, a_Tried, a_Make, a_LenO, a_ForD0, a_getC, a_setC, a_frzR, bind_ok', bind_exc, bind_bad, bind_ite, andS_ok, andS_exc, andS_bad, andS_ite, of_some, of_none, of_ite, sq_nx, sq_ret, sq_brk, sq_cnt, sq_exc, sq_bad, sq_ite, out_ret, out_nxF, out_exc, out_ite, back_ok, back_exc, back_ite, selB_bl, selB_ite, g_N, g_Tt, g_Tl, g_nil, g_cons, dLt_i, dLe_i, dGt_i, dGe_i, dAdd_i, dSub_i, dNeg_i, dIx_l, dIx_t, cLen_l, cLen_t, cList_l, cList_t, cTuple_l, cTuple_t, cMin_i, cMax_i, atI_zero, atI_one, atI_2, atI_3, atI_4, atI_5, atI_nt, atI_lst, dEq_pl, dNe_pl, dEq_bl, dNe_bl, dIsN_non, dIsN_int, dIsN_str, dIsN_lst, dIsN_tup, dIsN_bl, dNotN_non, dNotN_int, dNotN_str, dNotN_lst, dNotN_tup, dNotN_bl, sqS_l, sqS_t, enS_l, enS_t, noIo, isLst, wipeR, isi_list_n, isi_list_b, isi_list_i, isi_list_s, isi_list_l, isi_list_t, isi_tuple_n, isi_tuple_b, isi_tuple_i, isi_tuple_s, isi_tuple_l, isi_tuple_t, isi_bool_n, isi_bool_b, isi_bool_i, isi_bool_s, isi_bool_l, isi_bool_t, isi_int_n, isi_int_b, isi_int_i, isi_int_s, isi_int_l, isi_int_t, isi_str_n, isi_str_b, isi_str_i, isi_str_s, isi_str_l, isi_str_t, List.foldr_cons, List.foldr_nil, List.getElem?_cons_zero, List.getElem?_cons_succ, List.set_cons_zero, List.set_cons_succ, List.length_cons, List.length_nil, List.replicate_succ, List.replicate_zero, List.cons_append, List.nil_append, List.map_cons, List.map_nil, Nat.reduceAdd, Nat.reduceSub, Nat.reduceLeDiff, Nat.reduceLT, sizeLine_val, ite_true, ite_false, if_true, if_false, Bool.false_eq_true, Bool.true_eq_false, decide_eq_true_eq, Bool.not_eq_true', Bool.not_true, Bool.not_false, decide_true, decide_false, decide_eq_false_iff_not, D.int.injEq, D.str.injEq, D.bl.injEq, reduceCtorEq, Int.cast_ofNat_Int, Int.reduceNeg, Int.reducePow, Int.reduceLE, Int.reduceLT, Int.reduceToNat, and_self, Int.reduceEq, Int.reduceNe, Nat.reduceEqDiff, not_false_eq_true, not_true_eq_false, Int.toNat_natCast, List.range_succ, List.range_zero, a_turn, nxP_nx, nxP_cnt, nxP_ite, ↓reduceIte, hz2, al]
      exact last _ _ _
  · rw [e2] at hz ⊢
    have hz' : d = z := hz
    simp only [lt_law_3, lt_law_2, lt_law_1, a_kBin2, a_kBin, a_kUn, a_kIfE, a_kAndT, a_kOrT, a_kNotT, a_kCons2, a_kCons, a_kCallB, a_kTup, a_kLst, a_kDrop, a_kRet, a_kIfS, a_kSet, a_kSetF, a_kFor, a_kPar2, a_kPar, a_kAnd, a_kOr, a_kNot, a_kCh3, a_kCh2, a_kCh1, a_kSl3, a_kSl2, a_kSl1, a_koSo, a_kOfL, a_krC2, a_krC, a_krIo, a_krDef, a_kCall, a_kCallIo, a_kRaise, a_ktOf, a_kTgt, a_kRng1, a_kRng2, a_kEn, a_kZp2, a_kZp, a_kiLst, a_kLc2, a_kLc, a_kMut, a_kPut2, a_kPut, a_kDPut2, a_kDPut, a_kFldS, a_kMake, a_kLenO, a_runB, a_C, a_Bin, a_Un, a_If, a_tAnd, a_tOr, a_tNot, a_tYes, a_Nil, a_Cons, a_CallB, a_Tup, a_Lst, a_Next, a_Brk, a_Cnt, a_Bad, a_Seq, a_Drop, a_Ret, a_sIf, a_Set, a_SetF, a_Frz, a_For, a_Par, a_AndS, a_OrS, a_Not, a_ChainS, a_Sl, a_oNo, a_oSo, a_iSqS, a_iEnS, a_rNil, a_rCons, a_rDef, a_rIo, a_CallIo, a_Call, a_Raise, a_Var, a_VarB, a_tOf, a_Tgt, a_RetOwn, a_IoIx, a_iRng1, a_iRng2, a_iEn, a_iZp, a_iLst, a_Lc, a_Mut, a_Put, a_DPut, a_FldS, a_Make, a_LenO, a_ForD0, a_getC, a_setC, a_frzR, bind_ok', bind_exc, bind_bad, bind_ite, andS_ok, andS_exc, andS_bad, andS_ite, of_some, of_none, of_ite, sq_nx, sq_ret, sq_brk, sq_cnt, sq_exc, sq_bad, sq_ite, out_ret, out_nxF, out_exc, out_ite, back_ok, back_exc, back_ite, selB_bl, selB_ite, g_N, g_Tt, g_Tl, g_nil, g_cons, dLt_i, dLe_i, dGt_i, dGe_i, dAdd_i, dSub_i, dNeg_i, dIx_l, dIx_t, cLen_l, cLen_t, cList_l, cList_t, cTuple_l, cTuple_t, cMin_i, cMax_i, atI_zero, atI_one, atI_2, atI_3, atI_4, atI_5, atI_nt, atI_lst, dEq_pl, dNe_pl, dEq_bl, dNe_bl, dIsN_non, dIsN_int, dIsN_str, dIsN_lst, dIsN_tup, dIsN_bl, dNotN_non, dNotN_int, dNotN_str, dNotN_lst, dNotN_tup, dNotN_bl, sqS_l, sqS_t, enS_l, enS_t, noIo, isLst, wipeR, isi_list_n, isi_list_b, isi_list_i, isi_list_s, isi_list_l, isi_list_t, isi_tuple_n, isi_tuple_b, isi_tuple_i, isi_tuple_s, isi_tuple_l, isi_tuple_t, isi_bool_n, isi_bool_b, isi_bool_i, isi_bool_s, isi_bool_l, isi_bool_t, isi_int_n, isi_int_b, isi_int_i, isi_int_s, isi_int_l, isi_int_t, isi_str_n, isi_str_b, isi_str_i, isi_str_s, isi_str_l, isi_str_t, List.foldr_cons, List.foldr_nil, List.getElem?_cons_zero, List.getElem?_cons_succ, List.set_cons_zero, List.set_cons_succ, List.length_cons, List.length_nil, List.replicate_succ, List.replicate_zero, List.cons_append, List.nil_append, List.map_cons, List.map_nil, Nat.reduceAdd, Nat.reduceSub, Nat.reduceLeDiff, Nat.reduceLT, sizeLine_val, ite_true, ite_false, if_true, if_false, Bool.false_eq_true, Bool.true_eq_false, decide_eq_true_eq, Bool.not_eq_true', Bool.not_true, Bool.not_false, decide_true, decide_false, decide_eq_false_iff_not, D.int.injEq, D.str.injEq, D.bl.injEq, reduceCtorEq, Int.cast_ofNat_Int, Int.reduceNeg, Int.reducePow, Int.reduceLE, Int.reduceLT, Int.reduceToNat, and_self, Int.reduceEq, Int.reduceNe, Nat.reduceEqDiff, not_false_eq_true, not_true_eq_false, Int.toNat_natCast, List.range_succ, List.range_zero, a_turn, nxP_nx, nxP_cnt, nxP_ite, ↓reduceIte, Option.getD_some, e5, e6, hz', al]
    simp only [hz'] at e5 e6
    simp only [a_kBin2, a_kBin, a_kUn, a_kIfE, a_kAndT, a_kOrT, a_kNotT, a_kCons2, a_kCons, a_kCallB, a_kTup, a_kLst, a_kDrop, a_kRet, a_kIfS, a_kSet, a_kSetF, a_kFor, a_kPar2, a_kPar, a_kAnd, a_kOr, a_kNot, a_kCh3, a_kCh2, a_kCh1, a_kSl3, a_kSl2, a_kSl1, a_koSo, a_kOfL, a_krC2, a_krC, a_krIo, a_krDef, a_kCall, a_kCallIo, a_kRaise, a_ktOf, a_kTgt, a_kRng1, a_kRng2, a_kEn, a_kZp2, a_kZp, a_kiLst, a_kLc2, a_kLc, a_kMut, a_kPut2, a_kPut, a_kDPut2, a_kDPut, a_kFldS, a_kMake, a_kLenO, a_runB, a_C, a_Bin, a_Un, a_If, a_tAnd, a_tOr, a_tNot, a_tYes, a_Nil, a_Cons, a_CallB, a_Tup, a_Lst, a_Next, a_Brk, a_Cnt, a_Bad, a_Seq, a_Drop, a_Ret, a_sIf, a_Set, a_SetF, a_Frz, a_For, a_Par, a_AndS, a_OrS, a_Not, a_ChainS, a_Sl, a_oNo, a_oSo, a_iSqS, a_iEnS, a_rNil, a_rCons, a_rDef, a_rIo, a_CallIo, a_Call, a_Raise, a_Var, a_VarB, a_tOf, a_Tgt, a_RetOwn, a_IoIx, a_iRng1, a_iRng2, a_iEn, a_iZp, a_iLst, a_Lc, a_Mut, a_Put, a_DPut, a_FldS, a_Make, a_LenO, a_ForD0, a_getC, a_setC, a_frzR, bind_ok', bind_exc, bind_bad, bind_ite, andS_ok, andS_exc, andS_bad, andS_ite, of_some, of_none, of_ite, sq_nx, sq_ret, sq_brk, sq_cnt, sq_exc, sq_bad, sq_ite, out_ret, out_nxF, out_exc, out_ite, back_ok, back_exc, back_ite, selB_bl, selB_ite, g_N, g_Tt, g_Tl, g_nil, g_cons, dLt_i, dLe_i, dGt_i, dGe_i, dAdd_i, dSub_i, dNeg_i, dIx_l, dIx_t, cLen_l, cLen_t, cList_l, cList_t, cTuple_l, cTuple_t, cMin_i, cMax_i, atI_zero, atI_one, atI_2, atI_3, atI_4, atI_5, atI_nt, atI_lst, dEq_pl, dNe_pl, dEq_bl, dNe_bl, dIsN_non, dIsN_int, dIsN_str, dIsN_lst, dIsN_tup, dIsN_bl, dNotN_non, dNotN_int, dNotN_str, dNotN_lst, dNotN_tup, dNotN_bl, sqS_l, sqS_t, enS_l, enS_t, noIo, isLst, wipeR, isi_list_n, isi_list_b, isi_list_i, isi_list_s, isi_list_l, isi_list_t, isi_tuple_n, isi_tuple_b, isi_tuple_i, isi_tuple_s, isi_tuple_l, isi_tuple_t, isi_bool_n, isi_bool_b, isi_bool_i, isi_bool_s, isi_bool_l, isi_bool_t, isi_int_n, isi_int_b, isi_int_i, isi_int_s, isi_int_l, isi_int_t, isi_str_n, isi_str_b, isi_str_i, isi_str_s, isi_str_l, isi_str_t, List.foldr_cons, List.foldr_nil, List.getElem?_cons_zero, List.getElem?_cons_succ, List.set_cons_zero, List.set_cons_succ, List.length_cons, List.length_nil, List.replicate_succ, List.replicate_zero, List.cons_append, List.nil_append, List.map_cons, List.map_nil, Nat.reduceAdd, Nat.reduceSub, Nat.reduceLeDiff, Nat.reduceLT, sizeLine_val, ite_true, ite_false, if_true, if_false, Bool.false_eq_true, Bool.true_eq_false, decide_eq_true_eq, Bool.not_eq_true', Bool.not_true, Bool.not_false, decide_true, decide_false, decide_eq_false_iff_not, D.int.injEq, D.str.injEq, D.bl.injEq, reduceCtorEq, Int.cast_ofNat_Int, Int.reduceNeg, Int.reducePow, Int.reduceLE, Int.reduceLT, Int.reduceToNat, and_self, Int.reduceEq, Int.reduceNe, Nat.reduceEqDiff, not_false_eq_true, not_true_eq_false, Int.toNat_natCast, List.range_succ, List.range_zero, a_turn, nxP_nx, nxP_cnt, nxP_ite, ↓reduceIte, e5, e6, al]
    exact last _ _ _
end K03
set_option maxHeartbeats 400000
namespace K03
open PySem PySem.Spec L2 Hw
theorem pick_int {d : D} (xs : List Int) (g : Good d) (h1 : 1 ≤ xs.length) (h2 : xs.length < 1000000) : ∃ v d', m_l_pick [.io 0, .fz (.lst (xs.map D.int))] [d] = .ok (.int v) [d'] ∧ v ∈ xs ∧ Good d' := by
  obtain ⟨v, d', e, hv, g'⟩ := pick_good (ds := xs.map D.int) g (by rw [List.length_map]; exact h1) (by rw [List.length_map]; exact h2)
  obtain ⟨i, hi, rfl⟩ := List.mem_map.mp hv
  exact ⟨i, d', e, hi, g'⟩
theorem take_le {d : D} {n : Int} (g : Good d) (h1 : 1 ≤ n) (h2 : n ≤ 10 ^ 40) : ∃ v d', m_l_take [.io 0, .fz (.int n)] [d] = .ok (.int v) [d'] ∧ 0 ≤ v ∧ v < n ∧ Good d' :=
  take_good g h1 (log2_small (by have : (10 : Int) ^ 40 < 2 ^ 200 := by decide
                                 omega))
theorem mix_nil (L : List Ed) (h : ∀ p ∈ L, ∀ q ∈ L, p.1 = q.1) : mix L = [] := by
  unfold mix
  rw [List.flatMap_eq_nil_iff]
  rintro ⟨p, i⟩ hp
  unfold mixRow
  rw [List.map_eq_nil_iff, List.filter_eq_nil_iff]
  rintro ⟨q, j⟩ hq
  have h1 : p ∈ L := by
    have := List.mem_zipIdx_iff_getElem?.mp hp
    exact List.mem_of_getElem? this
  have h2 : q ∈ L := by
    have := List.mem_zipIdx_iff_getElem?.mp hq
    exact List.mem_of_getElem? this
  simp [mixc, h p h1 q h2]
theorem ef_none {c n : Int} {L : List Ed} (h : ef c n L = none) : ∀ p ∈ L, p.1 < c := by
  intro p hp
  have := List.findIdx?_eq_none_iff.mp h p hp
  simp [edOk] at this
  exact this.1.2
theorem law_turn (s : Sv) (d : D) (g : Good d) (k : Nat) (t x3 x4 x5 x6 x7 x8 x9 x10 x11 x12 x13 x14 : Sv) :
    (turn (gN 2) lb_law_0 (.int k) [s, .io 0, t, x3, x4, x5, x6, x7, x8, x9, x10, x11, x12, x13, x14] [d]).nxP fun ρ τ => ∃ d, τ = [d] ∧ Good d ∧ ∃ t y3 y4 y5 y6 y7 y8 y9 y10 y11 y12 y13 y14, ρ = [s, .io 0, t, y3, y4, y5, y6, y7, y8, y9, y10, y11, y12, y13, y14] := by
  obtain ⟨far, d1, e1, _, _, g1⟩ := take_le (n := 1000000000000000000000000000000) g (by omega) (by decide)
  obtain ⟨c, d2, e2, _, g2⟩ := pick_int [1, 1, 2, 3, 0, 4, -1 - far, 4 + far] g1 (by simp) (by simp)
  obtain ⟨u, d3, e3, _, _, g3⟩ := take_le (n := 30) g2 (by omega) (by decide)
  obtain ⟨n, d4, e4, _, g4⟩ := pick_int [1 + u, 30, 31, 0, 0 - far, 31 + far, 5] g3 (by simp) (by simp)
  obtain ⟨u2, d5, e5, h5, h5', g5⟩ := take_le (n := 123) g4 (by omega) (by decide)
  obtain ⟨m, d6, e6, h6, g6⟩ := pick_int [120, 121, 0, 3, u2] g5 (by simp) (by simp)
  have hm : 0 ≤ m ∧ m ≤ 122 := by
    simp only [List.mem_cons, List.not_mem_nil, or_false] at h6
    omega
  simp only [List.map_cons, List.map_nil] at e2 e4 e6
  have hw1 : 1 ≤ (if (if 30 < n then 30 else n) > 1 then (if 30 < n then 30 else n) else 1) := by split <;> omega
  have hw2 : (if (if 30 < n then 30 else n) > 1 then (if 30 < n then 30 else n) else 1) ≤ 30 := by (repeat' split) <;> omega
  have p30 : dPow (.int 10) (.int 30) = some (.int 1000000000000000000000000000000) := rfl
  simp only [lb_law_0, lt_law_15, lt_law_14, lt_law_13, lt_law_12, lt_law_11, a_kBin2, a_kBin, a_kUn, a_kIfE, a_kAndT, a_kOrT, a_kNotT, a_kCons2, a_kCons, a_kCallB, a_kTup, a_kLst, a_kDrop, a_kRet, a_kIfS, a_kSet, a_kSetF, a_kFor, a_kPar2, a_kPar, a_kAnd, a_kOr, a_kNot, a_kCh3, a_kCh2, a_kCh1, a_kSl3, a_kSl2, a_kSl1, a_koSo, a_kOfL, a_krC2, a_krC, a_krIo, a_krDef, a_kCall, a_kCallIo, a_kRaise, a_ktOf, a_kTgt, a_kRng1, a_kRng2, a_kEn, a_kZp2, a_kZp, a_kiLst, a_kLc2, a_kLc, a_kMut, a_kPut2, a_kPut, a_kDPut2, a_kDPut, a_kFldS, a_kMake, a_kLenO, a_runB, a_C, a_Bin, a_Un, a_If, a_tAnd, a_tOr, a_tNot, a_tYes, a_Nil, a_Cons, a_CallB, a_Tup, a_Lst, a_Next, a_Brk, a_Cnt, a_Bad, a_Seq, a_Drop, a_Ret, a_sIf, a_Set, a_SetF, a_Frz, a_For, a_Par, a_AndS, a_OrS, a_Not, a_ChainS, a_Sl, a_oNo, a_oSo, a_iSqS, a_iEnS, a_rNil, a_rCons, a_rDef, a_rIo, a_CallIo, a_Call, a_Raise, a_Var, a_VarB, a_tOf, a_Tgt, a_RetOwn, a_IoIx, a_iRng1, a_iRng2, a_iEn, a_iZp, a_iLst, a_Lc, a_Mut, a_Put, a_DPut, a_FldS, a_Tried, a_Make, a_LenO, a_ForD0, a_getC, a_setC, a_frzR, bind_ok', bind_exc, bind_bad, bind_ite, andS_ok, andS_exc, andS_bad, andS_ite, of_some, of_none, of_ite, sq_nx, sq_ret, sq_brk, sq_cnt, sq_exc, sq_bad, sq_ite, out_ret, out_nxF, out_exc, out_ite, back_ok, back_exc, back_ite, selB_bl, selB_ite, g_N, g_Tt, g_Tl, g_nil, g_cons, dLt_i, dLe_i, dGt_i, dGe_i, dAdd_i, dSub_i, dNeg_i, dIx_l, dIx_t, cLen_l, cLen_t, cList_l, cList_t, cTuple_l, cTuple_t, cMin_i, cMax_i, atI_zero, atI_one, atI_2, atI_3, atI_4, atI_5, atI_nt, atI_lst, dEq_pl, dNe_pl, dEq_bl, dNe_bl, dIsN_non, dIsN_int, dIsN_str, dIsN_lst, dIsN_tup, dIsN_bl, dNotN_non, dNotN_int, dNotN_str, dNotN_lst, dNotN_tup, dNotN_bl, sqS_l, sqS_t, enS_l, enS_t, noIo, isLst, wipeR, isi_list_n, isi_list_b, isi_list_i, isi_list_s, isi_list_l, isi_list_t, isi_tuple_n, isi_tuple_b, isi_tuple_i, isi_tuple_s, isi_tuple_l, isi_tuple_t, isi_bool_n, isi_bool_b, isi_bool_i, isi_bool_s, isi_bool_l, isi_bool_t, isi_int_n, isi_int_b, isi_int_i, isi_int_s, isi_int_l, isi_int_t, isi_str_n, isi_str_b, isi_str_i, isi_str_s, isi_str_l, isi_str_t, List.foldr_cons, List.foldr_nil, List.getElem?_cons_zero, List.getElem?_cons_succ, List.set_cons_zero, List.set_cons_succ, List.length_cons, List.length_nil, List.replicate_succ, List.replicate_zero, List.cons_append, List.nil_append, List.map_cons, List.map_nil, Nat.reduceAdd, Nat.reduceSub, Nat.reduceLeDiff, Nat.reduceLT, sizeLine_val, ite_true, ite_false, if_true, if_false, Bool.false_eq_true, Bool.true_eq_false, decide_eq_true_eq, Bool.not_eq_true', Bool.not_true, Bool.not_false, decide_true, decide_false, decide_eq_false_iff_not, D.int.injEq, D.str.injEq, D.bl.injEq, reduceCtorEq, Int.cast_ofNat_Int, Int.reduceNeg, Int.reducePow, Int.reduceLE, Int.reduceLT, Int.reduceToNat, and_self, Int.reduceEq, Int.reduceNe, Nat.reduceEqDiff, not_false_eq_true, not_true_eq_false, Int.toNat_natCast, List.range_succ, List.range_zero, a_turn, nxP_nx, nxP_cnt, nxP_ite, ↓reduceIte, p30, e1, e2, e3, e4, e5, e6]
  generalize (if (if 30 < n then 30 else n) > 1 then (if 30 < n then 30 else n) else 1) = w at hw1 hw2 ⊢
  obtain ⟨u3, d7, e7, h7, h7', g7⟩ := take_le (n := w) g6 hw1 (Int.le_trans hw2 (by decide))
  obtain ⟨u4, d8, e8, h8, h8', g8⟩ := take_le (n := w) g7 hw1 (Int.le_trans hw2 (by decide))
  obtain ⟨u5, d9, e9, h9, h9', g9⟩ := take_le (n := 3) g8 (by omega) (by decide)
  have hk : dMul (.lst [tri (0, u3, u4)]) (.int m) = some (.lst ((List.replicate m.toNat (0, u3, u4)).map tri)) := by
    have : -(2 ^ 63) ≤ m ∧ m < 2 ^ 63 ∧ [tri (0, u3, u4)].length * m.toNat ≤ sizeLine := by
      rw [List.length_singleton, sizeLine_val]
      omega
    simp only [dMul]
    rw [if_pos this]
    congr 2
    induction m.toNat with
    | zero => rfl
    | succ j ih => rw [List.replicate_succ, List.flatten_cons, ih, List.replicate_succ, List.map_cons]; rfl
  have fin : ∀ (L : List Ed) (_ : L.length ≤ 900) (_ : ∀ k, k ≤ 3 → ef k n L = none → mix L = []), (lt_law_8 [s, .io 0, .fz (.int k), .fz (.int far), .fz (.int c), .fz (.int n), .fz (.int w), .fz (.int m), .fz (.lst (L.map tri)), x9, x10, x11, x12, x13, x14] [d9]).nxP fun ρ τ => ∃ d, τ = [d] ∧ Good d ∧ ∃ t y3 y4 y5 y6 y7 y8 y9 y10 y11 y12 y13 y14, ρ = [s, .io 0, t, y3, y4, y5, y6, y7, y8, y9, y10, y11, y12, y13, y14] := by
    intro L hl hmx
    have := turn_ok c n far w m L hl hmx d9 s (.fz (.int k)) x9 x10 x11 x12 x13 x14
    cases h : lt_law_8 [s, .io 0, .fz (.int k), .fz (.int far), .fz (.int c), .fz (.int n), .fz (.int w), .fz (.int m), .fz (.lst (L.map tri)), x9, x10, x11, x12, x13, x14] [d9] <;> rw [h] at this <;> first | exact this.elim | exact ⟨d9, this.1, g9, this.2⟩
  have tr0 : ∀ a b c : Int, D.tup [.int a, .int b, .int c] = tri (a, b, c) := fun _ _ _ => rfl
  simp only [lt_law_10, a_kBin2, a_kBin, a_kUn, a_kIfE, a_kAndT, a_kOrT, a_kNotT, a_kCons2, a_kCons, a_kCallB, a_kTup, a_kLst, a_kDrop, a_kRet, a_kIfS, a_kSet, a_kSetF, a_kFor, a_kPar2, a_kPar, a_kAnd, a_kOr, a_kNot, a_kCh3, a_kCh2, a_kCh1, a_kSl3, a_kSl2, a_kSl1, a_koSo, a_kOfL, a_krC2, a_krC, a_krIo, a_krDef, a_kCall, a_kCallIo, a_kRaise, a_ktOf, a_kTgt, a_kRng1, a_kRng2, a_kEn, a_kZp2, a_kZp, a_kiLst, a_kLc2, a_kLc, a_kMut, a_kPut2, a_kPut, a_kDPut2, a_kDPut, a_kFldS, a_kMake, a_kLenO, a_runB, a_C, a_Bin, a_Un, a_If, a_tAnd, a_tOr, a_tNot, a_tYes, a_Nil, a_Cons, a_CallB, a_Tup, a_Lst, a_Next, a_Brk, a_Cnt, a_Bad, a_Seq, a_Drop, a_Ret, a_sIf, a_Set, a_SetF, a_Frz, a_For, a_Par, a_AndS, a_OrS, a_Not, a_ChainS, a_Sl, a_oNo, a_oSo, a_iSqS, a_iEnS, a_rNil, a_rCons, a_rDef, a_rIo, a_CallIo, a_Call, a_Raise, a_Var, a_VarB, a_tOf, a_Tgt, a_RetOwn, a_IoIx, a_iRng1, a_iRng2, a_iEn, a_iZp, a_iLst, a_Lc, a_Mut, a_Put, a_DPut, a_FldS, a_Tried, a_Make, a_LenO, a_ForD0, a_getC, a_setC, a_frzR, bind_ok', bind_exc, bind_bad, bind_ite, andS_ok, andS_exc, andS_bad, andS_ite, of_some, of_none, of_ite, sq_nx, sq_ret, sq_brk, sq_cnt, sq_exc, sq_bad, sq_ite, out_ret, out_nxF, out_exc, out_ite, back_ok, back_exc, back_ite, selB_bl, selB_ite, g_N, g_Tt, g_Tl, g_nil, g_cons, dLt_i, dLe_i, dGt_i, dGe_i, dAdd_i, dSub_i, dNeg_i, dIx_l, dIx_t, cLen_l, cLen_t, cList_l, cList_t, cTuple_l, cTuple_t, cMin_i, cMax_i, atI_zero, atI_one, atI_2, atI_3, atI_4, atI_5, atI_nt, atI_lst, dEq_pl, dNe_pl, dEq_bl, dNe_bl, dIsN_non, dIsN_int, dIsN_str, dIsN_lst, dIsN_tup, dIsN_bl, dNotN_non, dNotN_int, dNotN_str, dNotN_lst, dNotN_tup, dNotN_bl, sqS_l, sqS_t, enS_l, enS_t, noIo, isLst, wipeR, isi_list_n, isi_list_b, isi_list_i, isi_list_s, isi_list_l, isi_list_t, isi_tuple_n, isi_tuple_b, isi_tuple_i, isi_tuple_s, isi_tuple_l, isi_tuple_t, isi_bool_n, isi_bool_b, isi_bool_i, isi_bool_s, isi_bool_l, isi_bool_t, isi_int_n, isi_int_b, isi_int_i, isi_int_s, isi_int_l, isi_int_t, isi_str_n, isi_str_b, isi_str_i, isi_str_s, isi_str_l, isi_str_t, List.foldr_cons, List.foldr_nil, List.getElem?_cons_zero, List.getElem?_cons_succ, List.set_cons_zero, List.set_cons_succ, List.length_cons, List.length_nil, List.replicate_succ, List.replicate_zero, List.cons_append, List.nil_append, List.map_cons, List.map_nil, Nat.reduceAdd, Nat.reduceSub, Nat.reduceLeDiff, Nat.reduceLT, sizeLine_val, ite_true, ite_false, if_true, if_false, Bool.false_eq_true, Bool.true_eq_false, decide_eq_true_eq, Bool.not_eq_true', Bool.not_true, Bool.not_false, decide_true, decide_false, decide_eq_false_iff_not, D.int.injEq, D.str.injEq, D.bl.injEq, reduceCtorEq, Int.cast_ofNat_Int, Int.reduceNeg, Int.reducePow, Int.reduceLE, Int.reduceLT, Int.reduceToNat, and_self, Int.reduceEq, Int.reduceNe, Nat.reduceEqDiff, not_false_eq_true, not_true_eq_false, Int.toNat_natCast, List.range_succ, List.range_zero, a_turn, nxP_nx, nxP_cnt, nxP_ite, ↓reduceIte, e7, e8]
  simp only [tr0, hk, a_kBin2, a_kBin, a_kUn, a_kIfE, a_kAndT, a_kOrT, a_kNotT, a_kCons2, a_kCons, a_kCallB, a_kTup, a_kLst, a_kDrop, a_kRet, a_kIfS, a_kSet, a_kSetF, a_kFor, a_kPar2, a_kPar, a_kAnd, a_kOr, a_kNot, a_kCh3, a_kCh2, a_kCh1, a_kSl3, a_kSl2, a_kSl1, a_koSo, a_kOfL, a_krC2, a_krC, a_krIo, a_krDef, a_kCall, a_kCallIo, a_kRaise, a_ktOf, a_kTgt, a_kRng1, a_kRng2, a_kEn, a_kZp2, a_kZp, a_kiLst, a_kLc2, a_kLc, a_kMut, a_kPut2, a_kPut, a_kDPut2, a_kDPut, a_kFldS, a_kMake, a_kLenO, a_runB, a_C, a_Bin, a_Un, a_If, a_tAnd, a_tOr, a_tNot, a_tYes, a_Nil, a_Cons, a_CallB, a_Tup, a_Lst, a_Next, a_Brk, a_Cnt, a_Bad, a_Seq, a_Drop, a_Ret, a_sIf, a_Set, a_SetF, a_Frz, a_For, a_Par, a_AndS, a_OrS, a_Not, a_ChainS, a_Sl, a_oNo, a_oSo, a_iSqS, a_iEnS, a_rNil, a_rCons, a_rDef, a_rIo, a_CallIo, a_Call, a_Raise, a_Var, a_VarB, a_tOf, a_Tgt, a_RetOwn, a_IoIx, a_iRng1, a_iRng2, a_iEn, a_iZp, a_iLst, a_Lc, a_Mut, a_Put, a_DPut, a_FldS, a_Tried, a_Make, a_LenO, a_ForD0, a_getC, a_setC, a_frzR, bind_ok', bind_exc, bind_bad, bind_ite, andS_ok, andS_exc, andS_bad, andS_ite, of_some, of_none, of_ite, sq_nx, sq_ret, sq_brk, sq_cnt, sq_exc, sq_bad, sq_ite, out_ret, out_nxF, out_exc, out_ite, back_ok, back_exc, back_ite, selB_bl, selB_ite, g_N, g_Tt, g_Tl, g_nil, g_cons, dLt_i, dLe_i, dGt_i, dGe_i, dAdd_i, dSub_i, dNeg_i, dIx_l, dIx_t, cLen_l, cLen_t, cList_l, cList_t, cTuple_l, cTuple_t, cMin_i, cMax_i, atI_zero, atI_one, atI_2, atI_3, atI_4, atI_5, atI_nt, atI_lst, dEq_pl, dNe_pl, dEq_bl, dNe_bl, dIsN_non, dIsN_int, dIsN_str, dIsN_lst, dIsN_tup, dIsN_bl, dNotN_non, dNotN_int, dNotN_str, dNotN_lst, dNotN_tup, dNotN_bl, sqS_l, sqS_t, enS_l, enS_t, noIo, isLst, wipeR, isi_list_n, isi_list_b, isi_list_i, isi_list_s, isi_list_l, isi_list_t, isi_tuple_n, isi_tuple_b, isi_tuple_i, isi_tuple_s, isi_tuple_l, isi_tuple_t, isi_bool_n, isi_bool_b, isi_bool_i, isi_bool_s, isi_bool_l, isi_bool_t, isi_int_n, isi_int_b, isi_int_i, isi_int_s, isi_int_l, isi_int_t, isi_str_n, isi_str_b, isi_str_i, isi_str_s, isi_str_l, isi_str_t, List.foldr_cons, List.foldr_nil, List.getElem?_cons_zero, List.getElem?_cons_succ, List.set_cons_zero, List.set_cons_succ, List.length_cons, List.length_nil, List.replicate_succ, List.replicate_zero, List.cons_append, List.nil_append, List.map_cons, List.map_nil, Nat.reduceAdd, Nat.reduceSub, Nat.reduceLeDiff, Nat.reduceLT, sizeLine_val, ite_true, ite_false, if_true, if_false, Bool.false_eq_true, Bool.true_eq_false, decide_eq_true_eq, Bool.not_eq_true', Bool.not_true, Bool.not_false, decide_true, decide_false, decide_eq_false_iff_not, D.int.injEq, D.str.injEq, D.bl.injEq, reduceCtorEq, Int.cast_ofNat_Int, Int.reduceNeg, Int.reducePow, Int.reduceLE, Int.reduceLT, Int.reduceToNat, and_self, Int.reduceEq, Int.reduceNe, Nat.reduceEqDiff, not_false_eq_true, not_true_eq_false, Int.toNat_natCast, List.range_succ, List.range_zero, a_turn, nxP_nx, nxP_cnt, nxP_ite, ↓reduceIte, lt_law_9, e9]
  by_cases h0 : u5 = 0
  · have sl : dSl (.lst ((List.replicate m.toNat (0, u3, u4)).map tri)) (some 1) none = some (.lst ((List.replicate (m.toNat - 1) (0, u3, u4)).map tri)) := by
      simp only [dSl, cutD, HT.sIx]
      rw [if_neg (by decide), List.length_map, List.length_replicate, ← List.map_drop, ← List.map_take, List.drop_replicate, List.take_replicate]
      congr 4
      have : (1 : Int).toNat = 1 := rfl
      rw [this]
      omega
    have ad : dAdd (.lst ((List.replicate (m.toNat - 1) (0, u3, u4)).map tri)) (.lst [tri (7, 0, 0)]) = some (.lst ((List.replicate (m.toNat - 1) ((0, u3, u4) : Ed) ++ [((7, 0, 0) : Ed)]).map tri)) := by
      rw [dAdd_l (by rw [List.length_map, List.length_replicate, List.length_singleton, sizeLine_val]; omega), List.map_append]
      rfl
    simp only [h0, a_kBin2, a_kBin, a_kUn, a_kIfE, a_kAndT, a_kOrT, a_kNotT, a_kCons2, a_kCons, a_kCallB, a_kTup, a_kLst, a_kDrop, a_kRet, a_kIfS, a_kSet, a_kSetF, a_kFor, a_kPar2, a_kPar, a_kAnd, a_kOr, a_kNot, a_kCh3, a_kCh2, a_kCh1, a_kSl3, a_kSl2, a_kSl1, a_koSo, a_kOfL, a_krC2, a_krC, a_krIo, a_krDef, a_kCall, a_kCallIo, a_kRaise, a_ktOf, a_kTgt, a_kRng1, a_kRng2, a_kEn, a_kZp2, a_kZp, a_kiLst, a_kLc2, a_kLc, a_kMut, a_kPut2, a_kPut, a_kDPut2, a_kDPut, a_kFldS, a_kMake, a_kLenO, a_runB, a_C, a_Bin, a_Un, a_If, a_tAnd, a_tOr, a_tNot, a_tYes, a_Nil, a_Cons, a_CallB, a_Tup, a_Lst, a_Next, a_Brk, a_Cnt, a_Bad, a_Seq, a_Drop, a_Ret, a_sIf, a_Set, a_SetF, a_Frz, a_For, a_Par, a_AndS, a_OrS, a_Not, a_ChainS, a_Sl, a_oNo, a_oSo, a_iSqS, a_iEnS, a_rNil, a_rCons, a_rDef, a_rIo, a_CallIo, a_Call, a_Raise, a_Var, a_VarB, a_tOf, a_Tgt, a_RetOwn, a_IoIx, a_iRng1, a_iRng2, a_iEn, a_iZp, a_iLst, a_Lc, a_Mut, a_Put, a_DPut, a_FldS, a_Tried, a_Make, a_LenO, a_ForD0, a_getC, a_setC, a_frzR, bind_ok', bind_exc, bind_bad, bind_ite, andS_ok, andS_exc, andS_bad, andS_ite, of_some, of_none, of_ite, sq_nx, sq_ret, sq_brk, sq_cnt, sq_exc, sq_bad, sq_ite, out_ret, out_nxF, out_exc, out_ite, back_ok, back_exc, back_ite, selB_bl, selB_ite, g_N, g_Tt, g_Tl, g_nil, g_cons, dLt_i, dLe_i, dGt_i, dGe_i, dAdd_i, dSub_i, dNeg_i, dIx_l, dIx_t, cLen_l, cLen_t, cList_l, cList_t, cTuple_l, cTuple_t, cMin_i, cMax_i, atI_zero, atI_one, atI_2, atI_3, atI_4, atI_5, atI_nt, atI_lst, dEq_pl, dNe_pl, dEq_bl, dNe_bl, dIsN_non, dIsN_int, dIsN_str, dIsN_lst, dIsN_tup, dIsN_bl, dNotN_non, dNotN_int, dNotN_str, dNotN_lst, dNotN_tup, dNotN_bl, sqS_l, sqS_t, enS_l, enS_t, noIo, isLst, wipeR, isi_list_n, isi_list_b, isi_list_i, isi_list_s, isi_list_l, isi_list_t, isi_tuple_n, isi_tuple_b, isi_tuple_i, isi_tuple_s, isi_tuple_l, isi_tuple_t, isi_bool_n, isi_bool_b, isi_bool_i, isi_bool_s, isi_bool_l, isi_bool_t, isi_int_n, isi_int_b, isi_int_i, isi_int_s, isi_int_l, isi_int_t, isi_str_n, isi_str_b, isi_str_i, isi_str_s, isi_str_l, isi_str_t, List.foldr_cons, List.foldr_nil, List.getElem?_cons_zero, List.getElem?_cons_succ, List.set_cons_zero, List.set_cons_succ, List.length_cons, List.length_nil, List.replicate_succ, List.replicate_zero, List.cons_append, List.nil_append, List.map_cons, List.map_nil, Nat.reduceAdd, Nat.reduceSub, Nat.reduceLeDiff, Nat.reduceLT, sizeLine_val, ite_true, ite_false, if_true, if_false, Bool.false_eq_true, Bool.true_eq_false, decide_eq_true_eq, Bool.not_eq_true', Bool.not_true, Bool.not_false, decide_true, decide_false, decide_eq_false_iff_not, D.int.injEq, D.str.injEq, D.bl.injEq, reduceCtorEq, Int.cast_ofNat_Int, Int.reduceNeg, Int.reducePow, Int.reduceLE, Int.reduceLT, Int.reduceToNat, and_self, Int.reduceEq, Int.reduceNe, Nat.reduceEqDiff, not_false_eq_true, not_true_eq_false, Int.toNat_natCast, List.range_succ, List.range_zero, a_turn, nxP_nx, nxP_cnt, nxP_ite, ↓reduceIte, sl]
    simp only [tr0, ad, a_kBin2, a_kBin, a_kUn, a_kIfE, a_kAndT, a_kOrT, a_kNotT, a_kCons2, a_kCons, a_kCallB, a_kTup, a_kLst, a_kDrop, a_kRet, a_kIfS, a_kSet, a_kSetF, a_kFor, a_kPar2, a_kPar, a_kAnd, a_kOr, a_kNot, a_kCh3, a_kCh2, a_kCh1, a_kSl3, a_kSl2, a_kSl1, a_koSo, a_kOfL, a_krC2, a_krC, a_krIo, a_krDef, a_kCall, a_kCallIo, a_kRaise, a_ktOf, a_kTgt, a_kRng1, a_kRng2, a_kEn, a_kZp2, a_kZp, a_kiLst, a_kLc2, a_kLc, a_kMut, a_kPut2, a_kPut, a_kDPut2, a_kDPut, a_kFldS, a_kMake, a_kLenO, a_runB, a_C, a_Bin, a_Un, a_If, a_tAnd, a_tOr, a_tNot, a_tYes, a_Nil, a_Cons, a_CallB, a_Tup, a_Lst, a_Next, a_Brk, a_Cnt, a_Bad, a_Seq, a_Drop, a_Ret, a_sIf, a_Set, a_SetF, a_Frz, a_For, a_Par, a_AndS, a_OrS, a_Not, a_ChainS, a_Sl, a_oNo, a_oSo, a_iSqS, a_iEnS, a_rNil, a_rCons, a_rDef, a_rIo, a_CallIo, a_Call, a_Raise, a_Var, a_VarB, a_tOf, a_Tgt, a_RetOwn, a_IoIx, a_iRng1, a_iRng2, a_iEn, a_iZp, a_iLst, a_Lc, a_Mut, a_Put, a_DPut, a_FldS, a_Tried, a_Make, a_LenO, a_ForD0, a_getC, a_setC, a_frzR, bind_ok', bind_exc, bind_bad, bind_ite, andS_ok, andS_exc, andS_bad, andS_ite, of_some, of_none, of_ite, sq_nx, sq_ret, sq_brk, sq_cnt, sq_exc, sq_bad, sq_ite, out_ret, out_nxF, out_exc, out_ite, back_ok, back_exc, back_ite, selB_bl, selB_ite, g_N, g_Tt, g_Tl, g_nil, g_cons, dLt_i, dLe_i, dGt_i, dGe_i, dAdd_i, dSub_i, dNeg_i, dIx_l, dIx_t, cLen_l, cLen_t, cList_l, cList_t, cTuple_l, cTuple_t, cMin_i, cMax_i, atI_zero, atI_one, atI_2, atI_3, atI_4, atI_5, atI_nt, atI_lst, dEq_pl, dNe_pl, dEq_bl, dNe_bl, dIsN_non, dIsN_int, dIsN_str, dIsN_lst, dIsN_tup, dIsN_bl, dNotN_non, dNotN_int, dNotN_str, dNotN_lst, dNotN_tup, dNotN_bl, sqS_l, sqS_t, enS_l, enS_t, noIo, isLst, wipeR, isi_list_n, isi_list_b, isi_list_i, isi_list_s, isi_list_l, isi_list_t, isi_tuple_n, isi_tuple_b, isi_tuple_i, isi_tuple_s, isi_tuple_l, isi_tuple_t, isi_bool_n, isi_bool_b, isi_bool_i, isi_bool_s, isi_bool_l, isi_bool_t, isi_int_n, isi_int_b, isi_int_i, isi_int_s, isi_int_l, isi_int_t, isi_str_n, isi_str_b, isi_str_i, isi_str_s, isi_str_l, isi_str_t, List.foldr_cons, List.foldr_nil, List.getElem?_cons_zero, List.getElem?_cons_succ, List.set_cons_zero, List.set_cons_succ, List.length_cons, List.length_nil, List.replicate_succ, List.replicate_zero, List.cons_append, List.nil_append, List.map_cons, List.map_nil, Nat.reduceAdd, Nat.reduceSub, Nat.reduceLeDiff, Nat.reduceLT, sizeLine_val, ite_true, ite_false, if_true, if_false, Bool.false_eq_true, Bool.true_eq_false, decide_eq_true_eq, Bool.not_eq_true', Bool.not_true, Bool.not_false, decide_true, decide_false, decide_eq_false_iff_not, D.int.injEq, D.str.injEq, D.bl.injEq, reduceCtorEq, Int.cast_ofNat_Int, Int.reduceNeg, Int.reducePow, Int.reduceLE, Int.reduceLT, Int.reduceToNat, and_self, Int.reduceEq, Int.reduceNe, Nat.reduceEqDiff, not_false_eq_true, not_true_eq_false, Int.toNat_natCast, List.range_succ, List.range_zero, a_turn, nxP_nx, nxP_cnt, nxP_ite, ↓reduceIte]
    refine fin _ (by rw [List.length_append, List.length_replicate, List.length_singleton]; omega) fun j hj hn => ?_
    exact absurd (ef_none hn (7, 0, 0) (List.mem_append_right _ (List.mem_singleton.mpr rfl))) (by show ¬ (7 : Int) < j; omega)
  · simp only [h0, a_kBin2, a_kBin, a_kUn, a_kIfE, a_kAndT, a_kOrT, a_kNotT, a_kCons2, a_kCons, a_kCallB, a_kTup, a_kLst, a_kDrop, a_kRet, a_kIfS, a_kSet, a_kSetF, a_kFor, a_kPar2, a_kPar, a_kAnd, a_kOr, a_kNot, a_kCh3, a_kCh2, a_kCh1, a_kSl3, a_kSl2, a_kSl1, a_koSo, a_kOfL, a_krC2, a_krC, a_krIo, a_krDef, a_kCall, a_kCallIo, a_kRaise, a_ktOf, a_kTgt, a_kRng1, a_kRng2, a_kEn, a_kZp2, a_kZp, a_kiLst, a_kLc2, a_kLc, a_kMut, a_kPut2, a_kPut, a_kDPut2, a_kDPut, a_kFldS, a_kMake, a_kLenO, a_runB, a_C, a_Bin, a_Un, a_If, a_tAnd, a_tOr, a_tNot, a_tYes, a_Nil, a_Cons, a_CallB, a_Tup, a_Lst, a_Next, a_Brk, a_Cnt, a_Bad, a_Seq, a_Drop, a_Ret, a_sIf, a_Set, a_SetF, a_Frz, a_For, a_Par, a_AndS, a_OrS, a_Not, a_ChainS, a_Sl, a_oNo, a_oSo, a_iSqS, a_iEnS, a_rNil, a_rCons, a_rDef, a_rIo, a_CallIo, a_Call, a_Raise, a_Var, a_VarB, a_tOf, a_Tgt, a_RetOwn, a_IoIx, a_iRng1, a_iRng2, a_iEn, a_iZp, a_iLst, a_Lc, a_Mut, a_Put, a_DPut, a_FldS, a_Tried, a_Make, a_LenO, a_ForD0, a_getC, a_setC, a_frzR, bind_ok', bind_exc, bind_bad, bind_ite, andS_ok, andS_exc, andS_bad, andS_ite, of_some, of_none, of_ite, sq_nx, sq_ret, sq_brk, sq_cnt, sq_exc, sq_bad, sq_ite, out_ret, out_nxF, out_exc, out_ite, back_ok, back_exc, back_ite, selB_bl, selB_ite, g_N, g_Tt, g_Tl, g_nil, g_cons, dLt_i, dLe_i, dGt_i, dGe_i, dAdd_i, dSub_i, dNeg_i, dIx_l, dIx_t, cLen_l, cLen_t, cList_l, cList_t, cTuple_l, cTuple_t, cMin_i, cMax_i, atI_zero, atI_one, atI_2, atI_3, atI_4, atI_5, atI_nt, atI_lst, dEq_pl, dNe_pl, dEq_bl, dNe_bl, dIsN_non, dIsN_int, dIsN_str, dIsN_lst, dIsN_tup, dIsN_bl, dNotN_non, dNotN_int, dNotN_str, dNotN_lst, dNotN_tup, dNotN_bl, sqS_l, sqS_t, enS_l, enS_t, noIo, isLst, wipeR, isi_list_n, isi_list_b, isi_list_i, isi_list_s, isi_list_l, isi_list_t, isi_tuple_n, isi_tuple_b, isi_tuple_i, isi_tuple_s, isi_tuple_l, isi_tuple_t, isi_bool_n, isi_bool_b, isi_bool_i, isi_bool_s, isi_bool_l, isi_bool_t, isi_int_n, isi_int_b, isi_int_i, isi_int_s, isi_int_l, isi_int_t, isi_str_n, isi_str_b, isi_str_i, isi_str_s, isi_str_l, isi_str_t, List.foldr_cons, List.foldr_nil, List.getElem?_cons_zero, List.getElem?_cons_succ, List.set_cons_zero, List.set_cons_succ, List.length_cons, List.length_nil, List.replicate_succ, List.replicate_zero, List.cons_append, List.nil_append, List.map_cons, List.map_nil, Nat.reduceAdd, Nat.reduceSub, Nat.reduceLeDiff, Nat.reduceLT, sizeLine_val, ite_true, ite_false, if_true, if_false, Bool.false_eq_true, Bool.true_eq_false, decide_eq_true_eq, Bool.not_eq_true', Bool.not_true, Bool.not_false, decide_true, decide_false, decide_eq_false_iff_not, D.int.injEq, D.str.injEq, D.bl.injEq, reduceCtorEq, Int.cast_ofNat_Int, Int.reduceNeg, Int.reducePow, Int.reduceLE, Int.reduceLT, Int.reduceToNat, and_self, Int.reduceEq, Int.reduceNe, Nat.reduceEqDiff, not_false_eq_true, not_true_eq_false, Int.toNat_natCast, List.range_succ, List.range_zero, a_turn, nxP_nx, nxP_cnt, nxP_ite, ↓reduceIte]
    refine fin _ (by rw [List.length_replicate]; omega) fun j hj hn => mix_nil _ fun p hp q hq => ?_
    rw [List.eq_of_mem_replicate hp, List.eq_of_mem_replicate hq]
theorem law_true (ns : List Int) : m_law [.fz (.scr ns)] [] = .ok (.bl true) [] := by
  obtain ⟨b, hb, g⟩ := bag_good ns
  obtain ⟨ρ2, τ2, h1, d, rfl, _, t, y3, y4, y5, y6, y7, y8, y9, y10, y11, y12, y13, y14, rfl⟩ := for_fold (g := gN 2) (body := lb_law_0) (fun k : Nat => .int k) (fun (_ : Unit) _ => ()) (fun _ ρ τ => ∃ d, τ = [d] ∧ Good d ∧ ∃ t y3 y4 y5 y6 y7 y8 y9 y10 y11 y12 y13 y14, ρ = [.fz (.scr ns), .io 0, t, y3, y4, y5, y6, y7, y8, y9, y10, y11, y12, y13, y14])
    (List.range 4) () [.fz (.scr ns), .io 0, .no, .no, .no, .no, .no, .no, .no, .no, .no, .no, .no, .no, .no] [b] ⟨b, rfl, g, _, _, _, _, _, _, _, _, _, _, _, _, _, rfl⟩ (by
      rintro k _ _ ρ τ ⟨d, rfl, g, t, y3, y4, y5, y6, y7, y8, y9, y10, y11, y12, y13, y14, rfl⟩
      exact law_turn _ d g k _ _ _ _ _ _ _ _ _ _ _ _ _)
  simp only [m_law, b_law, a_kBin2, a_kBin, a_kUn, a_kIfE, a_kAndT, a_kOrT, a_kNotT, a_kCons2, a_kCons, a_kCallB, a_kTup, a_kLst, a_kDrop, a_kRet, a_kIfS, a_kSet, a_kSetF, a_kFor, a_kPar2, a_kPar, a_kAnd, a_kOr, a_kNot, a_kCh3, a_kCh2, a_kCh1, a_kSl3, a_kSl2, a_kSl1, a_koSo, a_kOfL, a_krC2, a_krC, a_krIo, a_krDef, a_kCall, a_kCallIo, a_kRaise, a_ktOf, a_kTgt, a_kRng1, a_kRng2, a_kEn, a_kZp2, a_kZp, a_kiLst, a_kLc2, a_kLc, a_kMut, a_kPut2, a_kPut, a_kDPut2, a_kDPut, a_kFldS, a_kMake, a_kLenO, a_runB, a_C, a_Bin, a_Un, a_If, a_tAnd, a_tOr, a_tNot, a_tYes, a_Nil, a_Cons, a_CallB, a_Tup, a_Lst, a_Next, a_Brk, a_Cnt, a_Bad, a_Seq, a_Drop, a_Ret, a_sIf, a_Set, a_SetF, a_Frz, a_For, a_Par, a_AndS, a_OrS, a_Not, a_ChainS, a_Sl, a_oNo, a_oSo, a_iSqS, a_iEnS, a_rNil, a_rCons, a_rDef, a_rIo, a_CallIo, a_Call, a_Raise, a_Var, a_VarB, a_tOf, a_Tgt, a_RetOwn, a_IoIx, a_iRng1, a_iRng2, a_iEn, a_iZp, a_iLst, a_Lc, a_Mut, a_Put, a_DPut, a_FldS, a_Tried, a_Make, a_LenO, a_ForD0, a_getC, a_setC, a_frzR, bind_ok', bind_exc, bind_bad, bind_ite, andS_ok, andS_exc, andS_bad, andS_ite, of_some, of_none, of_ite, sq_nx, sq_ret, sq_brk, sq_cnt, sq_exc, sq_bad, sq_ite, out_ret, out_nxF, out_exc, out_ite, back_ok, back_exc, back_ite, selB_bl, selB_ite, g_N, g_Tt, g_Tl, g_nil, g_cons, dLt_i, dLe_i, dGt_i, dGe_i, dAdd_i, dSub_i, dNeg_i, dIx_l, dIx_t, cLen_l, cLen_t, cList_l, cList_t, cTuple_l, cTuple_t, cMin_i, cMax_i, atI_zero, atI_one, atI_2, atI_3, atI_4, atI_5, atI_nt, atI_lst, dEq_pl, dNe_pl, dEq_bl, dNe_bl, dIsN_non, dIsN_int, dIsN_str, dIsN_lst, dIsN_tup, dIsN_bl, dNotN_non, dNotN_int, dNotN_str, dNotN_lst, dNotN_tup, dNotN_bl, sqS_l, sqS_t, enS_l, enS_t, noIo, isLst, wipeR, isi_list_n, isi_list_b, isi_list_i, isi_list_s, isi_list_l, isi_list_t, isi_tuple_n, isi_tuple_b, isi_tuple_i, isi_tuple_s, isi_tuple_l, isi_tuple_t, isi_bool_n, isi_bool_b, isi_bool_i, isi_bool_s, isi_bool_l, isi_bool_t, isi_int_n, isi_int_b, isi_int_i, isi_int_s, isi_int_l, isi_int_t, isi_str_n, isi_str_b, isi_str_i, isi_str_s, isi_str_l, isi_str_t, List.foldr_cons, List.foldr_nil, List.getElem?_cons_zero, List.getElem?_cons_succ, List.set_cons_zero, List.set_cons_succ, List.length_cons, List.length_nil, List.replicate_succ, List.replicate_zero, List.cons_append, List.nil_append, List.map_cons, List.map_nil, Nat.reduceAdd, Nat.reduceSub, Nat.reduceLeDiff, Nat.reduceLT, sizeLine_val, ite_true, ite_false, if_true, if_false, Bool.false_eq_true, Bool.true_eq_false, decide_eq_true_eq, Bool.not_eq_true', Bool.not_true, Bool.not_false, decide_true, decide_false, decide_eq_false_iff_not, D.int.injEq, D.str.injEq, D.bl.injEq, reduceCtorEq, Int.cast_ofNat_Int, Int.reduceNeg, Int.reducePow, Int.reduceLE, Int.reduceLT, Int.reduceToNat, and_self, Int.reduceEq, Int.reduceNe, Nat.reduceEqDiff, not_false_eq_true, not_true_eq_false, Int.toNat_natCast, a_turn, nxP_nx, nxP_cnt, nxP_ite, ↓reduceIte, hb]
  rw [a_Lend]
  simp only [a_kBin2, a_kBin, a_kUn, a_kIfE, a_kAndT, a_kOrT, a_kNotT, a_kCons2, a_kCons, a_kCallB, a_kTup, a_kLst, a_kDrop, a_kRet, a_kIfS, a_kSet, a_kSetF, a_kFor, a_kPar2, a_kPar, a_kAnd, a_kOr, a_kNot, a_kCh3, a_kCh2, a_kCh1, a_kSl3, a_kSl2, a_kSl1, a_koSo, a_kOfL, a_krC2, a_krC, a_krIo, a_krDef, a_kCall, a_kCallIo, a_kRaise, a_ktOf, a_kTgt, a_kRng1, a_kRng2, a_kEn, a_kZp2, a_kZp, a_kiLst, a_kLc2, a_kLc, a_kMut, a_kPut2, a_kPut, a_kDPut2, a_kDPut, a_kFldS, a_kMake, a_kLenO, a_runB, a_C, a_Bin, a_Un, a_If, a_tAnd, a_tOr, a_tNot, a_tYes, a_Nil, a_Cons, a_CallB, a_Tup, a_Lst, a_Next, a_Brk, a_Cnt, a_Bad, a_Seq, a_Drop, a_Ret, a_sIf, a_Set, a_SetF, a_Frz, a_For, a_Par, a_AndS, a_OrS, a_Not, a_ChainS, a_Sl, a_oNo, a_oSo, a_iSqS, a_iEnS, a_rNil, a_rCons, a_rDef, a_rIo, a_CallIo, a_Call, a_Raise, a_Var, a_VarB, a_tOf, a_Tgt, a_RetOwn, a_IoIx, a_iRng1, a_iRng2, a_iEn, a_iZp, a_iLst, a_Lc, a_Mut, a_Put, a_DPut, a_FldS, a_Tried, a_Make, a_LenO, a_ForD0, a_getC, a_setC, a_frzR, bind_ok', bind_exc, bind_bad, bind_ite, andS_ok, andS_exc, andS_bad, andS_ite, of_some, of_none, of_ite, sq_nx, sq_ret, sq_brk, sq_cnt, sq_exc, sq_bad, sq_ite, out_ret, out_nxF, out_exc, out_ite, back_ok, back_exc, back_ite, selB_bl, selB_ite, g_N, g_Tt, g_Tl, g_nil, g_cons, dLt_i, dLe_i, dGt_i, dGe_i, dAdd_i, dSub_i, dNeg_i, dIx_l, dIx_t, cLen_l, cLen_t, cList_l, cList_t, cTuple_l, cTuple_t, cMin_i, cMax_i, atI_zero, atI_one, atI_2, atI_3, atI_4, atI_5, atI_nt, atI_lst, dEq_pl, dNe_pl, dEq_bl, dNe_bl, dIsN_non, dIsN_int, dIsN_str, dIsN_lst, dIsN_tup, dIsN_bl, dNotN_non, dNotN_int, dNotN_str, dNotN_lst, dNotN_tup, dNotN_bl, sqS_l, sqS_t, enS_l, enS_t, noIo, isLst, wipeR, isi_list_n, isi_list_b, isi_list_i, isi_list_s, isi_list_l, isi_list_t, isi_tuple_n, isi_tuple_b, isi_tuple_i, isi_tuple_s, isi_tuple_l, isi_tuple_t, isi_bool_n, isi_bool_b, isi_bool_i, isi_bool_s, isi_bool_l, isi_bool_t, isi_int_n, isi_int_b, isi_int_i, isi_int_s, isi_int_l, isi_int_t, isi_str_n, isi_str_b, isi_str_i, isi_str_s, isi_str_l, isi_str_t, List.foldr_cons, List.foldr_nil, List.getElem?_cons_zero, List.getElem?_cons_succ, List.set_cons_zero, List.set_cons_succ, List.length_cons, List.length_nil, List.replicate_succ, List.replicate_zero, List.cons_append, List.nil_append, List.map_cons, List.map_nil, Nat.reduceAdd, Nat.reduceSub, Nat.reduceLeDiff, Nat.reduceLT, sizeLine_val, ite_true, ite_false, if_true, if_false, Bool.false_eq_true, Bool.true_eq_false, decide_eq_true_eq, Bool.not_eq_true', Bool.not_true, Bool.not_false, decide_true, decide_false, decide_eq_false_iff_not, D.int.injEq, D.str.injEq, D.bl.injEq, reduceCtorEq, Int.cast_ofNat_Int, Int.reduceNeg, Int.reducePow, Int.reduceLE, Int.reduceLT, Int.reduceToNat, and_self, Int.reduceEq, Int.reduceNe, Nat.reduceEqDiff, not_false_eq_true, not_true_eq_false, Int.toNat_natCast, a_turn, nxP_nx, nxP_cnt, nxP_ite, ↓reduceIte, h1, List.take_zero]
end K03
set_option maxHeartbeats 0
namespace K03
open PySem PySem.Spec L2 Hw PyProof.Rows
open He (Fa DefD ga ma fAd cT)
abbrev R : PySem.W.OpenRow := PySem.W.OpenLaw.row PySem.Challenge.rw_hueroads_k03_sizes_of_nets
abbrev exT : PySem.W.Frag → Bool := fun K => exL.all fun t => t K
abbrev hk : PySem.W.Hook := He.hookX 5 fa fn [] tf exT
def ob (s : PySem.W.SharedT) : He.AlX := He.obsX 5 fa fn [] tf exT (HandSHeadRun.getT s)
theorem ob_eq (s : PySem.W.SharedT) : ob s = hk.obs s.abs := He.obsX_eq (HandSHeadRun.getT_eq s)
def names1 : List PySem.Str := ["_wall", "RoadError", "RoadMissing", "BadNumber", "Full", "BadNet", "BadPath", "BadStep", "Bare", "Uneven", "BadWeight", "Unbalanced", "InUse", "Unsound", "Broken", "Stopped", "BadText", "NoNode", "NoEdge", "NoNet", "NoPath", "NoTiling", "NoWatch"]
def names2 : List PySem.Str := ["COLORS", "NODES", "EDGES", "check_sizes", "edge_fault", "is_swap", "swap_fault", "mixed_pairs", "swap_table", "led_by", "cube_fault", "net_fault", "Net", "sides_left", "complete_swaps", "_law_bag", "_law_take", "_law_pick", "_law_alike", "_law_tried", "_law_size_fault", "_law_is_entry", "_law_rough_fault", "_law_sized"]
def names : List PySem.Str := names1 ++ names2
theorem run (w : World) : HandSHeadRun.RunEq R (PySem.W.view R.prog [50]) hk ob 20000 names w := by
  intro os
  kernel_rfl
theorem at_end {w : World} {K : PySem.W.Frag} {mg : Str → Option Value} {h : Heap} {f : Addr} (KX : K.In h) (G : h.Ns mainGlobals mg) (hfa : mg ("law" : Str) = some (.ref f)) (c : He.SaysX fa fn [] tf exT w h K) :
    LamX.LawAtS PySem.Challenge.rw_hueroads_k03_sizes_of_nets w K (L2.CX (PySem.Challenge.rw_hueroads_k03_sizes_of_nets).prog w) 13 63 "_law_script" mg f h := by
  have cx : SX K mg := by
    letI : Tb := ⟨[]⟩
    exact Sx.mk' KX G c.t.d c.more
  obtain ⟨fd, F⟩ := c.t.d.defs (d := dd_law) (by simp [fn])
  have e := hfa.symm.trans (PySem.W.mg_of KX G (He.eqO_ok (c.t.d.facts (f := .glo "law") (by simp [fa]))))
  cases e
  have bA := FunD.bindsA (ps := ["_law_script"]) F fun _ _ _ _ _ _ us hl => match us, hl with | [_], _ => rfl
  refine law_at (mf := m_law) KX c (LT K) (fun p hp => ?_) (fun s u => bA s [u] rfl) (fun base b1 b2 b3 => ?_) (fun ns hl _ => law_true ns)
  · simp only [LT, List.mem_singleton] at hp
    exact ⟨("law", none), by simp [tf], by rw [hp]⟩
  · exact @ok_law ⟨LT K⟩ _ w K mg base cx rfl (b3 _ (by simp [tf])) fd F
end K03
open PySem PySem.W PySem.Calls PyProof.Rows
theorem PySem.Challenge.cw_hueroads_k03_sizes_of_nets_holds : PySem.Challenge.rw_hueroads_k03_sizes_of_nets.Holds := by
  w_on; o_law
  refine HandSHeadRun.head_any (r := OpenLaw.row PySem.Challenge.rw_hueroads_k03_sizes_of_nets) (q := view (OpenLaw.row PySem.Challenge.rw_hueroads_k03_sizes_of_nets).prog [50]) (H := K03.hk) (ob := K03.ob) (M := 20000) (loose := K03.names) (d := HandSHeadRun.topDef (OpenLaw.row PySem.Challenge.rw_hueroads_k03_sizes_of_nets).prog 50) (kwd := []) K03.ob_eq
    (by kernel_rfl) (fun s => by kernel_rfl) K03.run (by kernel_rfl) (by kernel_rfl) (by kernel_rfl) (by rfl) (by first | assumption | decide +kernel) (by decide +kernel) ⟨rfl, rfl, rfl, rfl, rfl, by decide +kernel⟩ ?hw ?hc
  case hw => w_witness2
  case hc =>
    refine LamX.walk_ofTsE (l := PySem.Challenge.rw_hueroads_k03_sizes_of_nets) (n := 63) (k := 13) (x := "_law_script") (CX := fun w => L2.CX (PySem.Challenge.rw_hueroads_k03_sizes_of_nets).prog w) rfl (by decide) (by kernel_rfl) ⟨rfl, by decide, by decide⟩ ?F (fun _ _ _ _ _ z => Hw.cx_no z)
    intro w mg fa h Y G hmg0
    obtain ⟨K, KX, c⟩ := Y
    have hmg : mg ("law" : PySem.Str) = some (.ref fa) := by
      have e : (HandSHeadRun.topDef (OpenLaw.row PySem.Challenge.rw_hueroads_k03_sizes_of_nets).prog 50).name = ("law" : PySem.Str) := by kernel_rfl
      rw [← e]
      exact hmg0
    exact ⟨K, KX, K03.at_end KX G hmg c⟩

import PyProof.Rows.All
import Wide.All
import OpenK.AllK
import Wide.FinOn
import HandS.ForMost
import HandS.ForExc
import HandS.Wide
import HandS.Defaults
import HandS.IsInst
import HandS.TupAny
import HandS.Flow
import HandS.Comp
import HandS.Head0
import HandS.Head1
import HandS.Head2
import HandS.HeadEnd
import HandS.HeadHook1
import HandS.HeadHook2
import HandS.HeadHook3
import HandS.HeadHook4
import HandS.Call
import HandS.Star
import HandS.FltList
import HandS.CallRecv
import HandS.FStr
import HandS.Style
import PyProof.Rows.ReprOcc
import PySem.Challenge.RW_openranges_k07_lines_added_and_moved
set_option Elab.async false
set_option linter.all false
set_option autoImplicit false
set_option maxRecDepth 100000
set_option maxHeartbeats 0
/-! DL: plain data over the hand layer: values as trees, the heap out of sight. -/
namespace DL
open PySem L2

/-- plain data -/
inductive D where
  | non
  | bl (b : Bool)
  | int (i : Int)
  | str (x : Str)
  | tup (l : List D)
  | lst (l : List D)
  | obj (c : Addr) (ns : List Str) (ds : List D)
  | dct (ks : List Key) (ds : List D)
  | ref (a : Addr)
  | ty (n : String)
  | scr (ns : List Int)

mutual
/-- a value stands for plain data -/
def Rep (K : PySem.W.Frag) (H : Hp) : D → V → Prop
  | .non, v => v = .non
  | .bl b, v => v = .bl b
  | .int i, v => v = .int i
  | .str x, v => v = .str x
  | .tup l, v => ∃ a vs, v = .ref a ∧ SqT K H a vs ∧ Reps K H l vs
  | .lst l, v => ∃ a vs, v = .ref a ∧ H a = some (.lst vs) ∧ Reps K H l vs
  | .obj c ns l, v => ∃ a dx vs, v = .ref a ∧ H a = some (.ins c dx (ns.zip vs)) ∧ ns.length = vs.length ∧ Reps K H l vs
  | .dct ks l, v => ∃ a vs, v = .ref a ∧ H a = some (.dK (ks.zip vs)) ∧ ks.length = vs.length ∧ Reps K H l vs
  | .ref a, v => v = .ref a
  | .ty n, v => v = .ty n
  | .scr ns, v => ∃ a, v = .ref a ∧ SqL K H a (ns.map V.int)
def Reps (K : PySem.W.Frag) (H : Hp) : List D → List V → Prop
  | [], vs => vs = []
  | d :: l, vs => ∃ v r, vs = v :: r ∧ Rep K H d v ∧ Reps K H l r
end

theorem same_l {K : PySem.W.Frag} {H H' : Hp} {a : Addr} {xs : List V} (e : Same H H') (h : SqL K H a xs) : SqL K H' a xs := e.seq h
theorem same_t {K : PySem.W.Frag} {H H' : Hp} {a : Addr} {xs : List V} (e : Same H H') (h : SqT K H a xs) : SqT K H' a xs := by
  rcases h with (h | ⟨o, h⟩) | h
  · exact Or.inl (Or.inl (e a _ h))
  · exact Or.inl (Or.inr ⟨o, e a _ h⟩)
  · exact Or.inr h

mutual
theorem Rep.mono {K : PySem.W.Frag} {H H' : Hp} (e : Same H H') : ∀ {d : D} {v : V}, Rep K H d v → Rep K H' d v
  | .non, v, h => h
  | .bl _, v, h => h
  | .int _, v, h => h
  | .str _, v, h => h
  | .tup l, v, h => by
    obtain ⟨a, vs, h1, h2, h3⟩ := h
    exact ⟨a, vs, h1, same_t e h2, Reps.mono e h3⟩
  | .lst l, v, h => by
    obtain ⟨a, vs, h1, h2, h3⟩ := h
    exact ⟨a, vs, h1, e _ _ h2, Reps.mono e h3⟩
  | .obj c ns l, v, h => by
    obtain ⟨a, dx, vs, h1, h2, h3, h4⟩ := h
    exact ⟨a, dx, vs, h1, e _ _ h2, h3, Reps.mono e h4⟩
  | .dct ks l, v, h => by
    obtain ⟨a, vs, h1, h2, h3, h4⟩ := h
    exact ⟨a, vs, h1, e _ _ h2, h3, Reps.mono e h4⟩
  | .ref _, v, h => h
  | .ty _, v, h => h
  | .scr ns, v, h => by
    obtain ⟨a, h1, h2⟩ := h
    exact ⟨a, h1, same_l e h2⟩
theorem Reps.mono {K : PySem.W.Frag} {H H' : Hp} (e : Same H H') : ∀ {l : List D} {vs : List V}, Reps K H l vs → Reps K H' l vs
  | [], vs, h => h
  | d :: l, vs, h => by
    obtain ⟨v, r, h1, h2, h3⟩ := h
    exact ⟨v, r, h1, Rep.mono e h2, Reps.mono e h3⟩
end

section
variable {K : PySem.W.Frag} {H : Hp}
theorem Reps.length : ∀ {l : List D} {vs : List V}, Reps K H l vs → l.length = vs.length
  | [], vs, h => by cases h; rfl
  | d :: l, vs, h => by
    obtain ⟨v, r, rfl, _, h3⟩ := h
    simp [Reps.length h3]
theorem Reps.get : ∀ {l : List D} {vs : List V} {i : Nat} {d : D}, Reps K H l vs → l[i]? = some d → ∃ v, vs[i]? = some v ∧ Rep K H d v
  | [], _, _, _, _, e => by simp at e
  | d :: l, vs, i, x, h, e => by
    obtain ⟨v, r, rfl, h2, h3⟩ := h
    cases i with
    | zero => simp at e; subst e; exact ⟨v, by simp, h2⟩
    | succ i =>
      obtain ⟨u, hu, ru⟩ := Reps.get (i := i) h3 (by simpa using e)
      exact ⟨u, by simpa using hu, ru⟩
theorem Reps.getV : ∀ {l : List D} {vs : List V} {i : Nat} {v : V}, Reps K H l vs → vs[i]? = some v → ∃ d, l[i]? = some d ∧ Rep K H d v := fun {l vs i v} h e => by
  have hl := h.length
  have hi : i < l.length := by rw [hl]; exact (List.getElem?_eq_some_iff.mp e).1
  obtain ⟨u, hu, r⟩ := h.get (List.getElem?_eq_getElem hi)
  rw [e] at hu; cases hu
  exact ⟨_, List.getElem?_eq_getElem hi, r⟩
theorem Reps.append : ∀ {l m : List D} {vs us : List V}, Reps K H l vs → Reps K H m us → Reps K H (l ++ m) (vs ++ us)
  | [], _, _, _, h, h' => by cases h; exact h'
  | d :: l, m, vs, us, h, h' => by
    obtain ⟨v, r, rfl, h2, h3⟩ := h
    exact ⟨v, r ++ us, rfl, h2, Reps.append h3 h'⟩
theorem Reps.snoc {l : List D} {vs : List V} {d : D} {v : V} (h : Reps K H l vs) (r : Rep K H d v) : Reps K H (l ++ [d]) (vs ++ [v]) := h.append ⟨v, [], rfl, r, rfl⟩
theorem Reps.take : ∀ {l : List D} {vs : List V} (n : Nat), Reps K H l vs → Reps K H (l.take n) (vs.take n)
  | _, _, 0, _ => rfl
  | [], vs, n + 1, h => by cases h; rfl
  | d :: l, vs, n + 1, h => by
    obtain ⟨v, r, rfl, h2, h3⟩ := h
    exact ⟨v, r.take n, rfl, h2, Reps.take n h3⟩
theorem Reps.drop : ∀ {l : List D} {vs : List V} (n : Nat), Reps K H l vs → Reps K H (l.drop n) (vs.drop n)
  | _, _, 0, h => h
  | [], vs, n + 1, h => by cases h; rfl
  | d :: l, vs, n + 1, h => by
    obtain ⟨v, r, rfl, h2, h3⟩ := h
    exact Reps.drop n h3
theorem Reps.nil : Reps K H [] [] := rfl
theorem Reps.cons {d : D} {v : V} {l : List D} {vs : List V} (h : Rep K H d v) (t : Reps K H l vs) : Reps K H (d :: l) (v :: vs) := ⟨v, vs, rfl, h, t⟩
theorem Reps.ints : ∀ {ns : List Int}, Reps K H (ns.map D.int) (ns.map V.int)
  | [] => rfl
  | n :: ns => ⟨.int n, ns.map V.int, rfl, rfl, Reps.ints⟩
end

/-! ### the state -/
/-- the pen of a law: a dict of the cells, how many were begun, what is left -/
def PenOk (Hs H : Hp) (p : Addr) (n : Nat) : Prop :=
  ∃ (ca : Addr) (ns : List Int) (k : Nat) (l : Int), H p = some (.dK [(Sum.inr "cells", .ref ca), (Sum.inr "begun", .int (k : Int)), (Sum.inr "left", .int l)]) ∧ Hs p = none ∧
    Hs ca = some (.lst (ns.map V.int)) ∧ ns.length ≤ 63 ∧ k ≤ n ∧ 0 ≤ l

/-- how the heaps grow: the shared one, the whole one; what lies at mu may turn -/
structure Grow (mu : List Addr) (Hs H Hs' H' : Hp) : Prop where
  sh : Same Hs Hs'
  ex : ∀ a o, a ∉ mu → H a = some o → H' a = some o
  al : ∀ a, H a ≠ none → H' a ≠ none
  fr : ∀ a, H a ≠ none → Hs a = none → Hs' a = none
  pc : ∀ p ca r, H p = some (.dK ((Sum.inr "cells", .ref ca) :: r)) → ∃ r', H' p = some (.dK ((Sum.inr "cells", .ref ca) :: r'))
theorem Grow.refl {mu : List Addr} {Hs H : Hp} : Grow mu Hs H Hs H := ⟨fun _ _ h => h, fun _ _ _ h => h, fun _ h => h, fun _ _ h => h, fun _ _ r h => ⟨r, h⟩⟩
theorem Grow.trans {mu : List Addr} {Hs H Hs1 H1 Hs2 H2 : Hp} (a : Grow mu Hs H Hs1 H1) (b : Grow mu Hs1 H1 Hs2 H2) : Grow mu Hs H Hs2 H2 :=
  ⟨fun x o h => b.sh x o (a.sh x o h), fun x o hm h => b.ex x o hm (a.ex x o hm h), fun x h => b.al x (a.al x h), fun x h hs => b.fr x (a.al x h) (a.fr x h hs), fun p ca r h => let ⟨r1, h1⟩ := a.pc p ca r h; b.pc p ca r1 h1⟩
theorem Grow.mono {mu mu' : List Addr} {Hs H Hs1 H1 : Hp} (a : Grow mu Hs H Hs1 H1) (h : ∀ x, x ∈ mu → x ∈ mu') : Grow mu' Hs H Hs1 H1 :=
  ⟨a.sh, fun x o hm e => a.ex x o (fun z => hm (h x z)) e, a.al, a.fr, a.pc⟩
theorem Grow.new {mu : List Addr} {Hs H : Hp} {p : Addr} {o : HO} (hp : H p = none) (sub : Same Hs H) : Grow mu Hs H (upd Hs p o) (upd H p o) := by
  have hs : Hs p = none := sub.free hp
  refine ⟨fun a u h => ?_, fun a u _ h => ?_, fun a h => ?_, fun a h z => ?_, fun q ca r h => ⟨r, by rw [upd_ne (ne_of_none h hp)]; exact h⟩⟩
  · rw [upd_ne (ne_of_none h hs)]; exact h
  · rw [upd_ne (ne_of_none h hp)]; exact h
  · by_cases e : a = p
    · subst e; exact absurd hp h
    · rw [upd_ne e]; exact h
  · by_cases e : a = p
    · subst e; exact absurd hp h
    · rw [upd_ne e]; exact z
/-- a new object that is not shared -/
theorem Grow.newOwn {mu : List Addr} {Hs H : Hp} {p : Addr} {o : HO} (hp : H p = none) : Grow mu Hs H Hs (upd H p o) := by
  refine ⟨fun a u h => h, fun a u _ h => ?_, fun a h => ?_, fun a h z => z, fun q ca r h => ⟨r, by rw [upd_ne (ne_of_none h hp)]; exact h⟩⟩
  · rw [upd_ne (ne_of_none h hp)]; exact h
  · by_cases e : a = p
    · subst e; exact absurd hp h
    · rw [upd_ne e]; exact h

/-- what a slot holds -/
inductive Sl where
  | un
  | sh (d : D)
  | ow (l : List D)
  | nw (c : Addr) (ns : List Str) (ds : List D)
abbrev DEnv := List Sl

structure Bs where
  pn : Option Addr
  mu : List Addr
  Hs0 : Hp
  H0 : Hp
  W : WX

def SlOk (K : PySem.W.Frag) (B : Bs) (Hs H : Hp) : Sl → Option (Option V) → Prop
  | .un, _ => True
  | .sh d, o => ∃ v, o = some (some v) ∧ Rep K Hs d v
  | .ow l, o => ∃ a vs, o = some (some (.ref a)) ∧ Hs a = none ∧ B.H0 a = none ∧ H a = some (.lst vs) ∧ Reps K Hs l vs
  | .nw c ns ds, o => ∃ a dx vs, o = some (some (.ref a)) ∧ Hs a = none ∧ a ∈ B.mu ∧ H a = some (.ins c dx (ns.zip vs)) ∧ ns.length = vs.length ∧ Reps K Hs ds vs

def ownA : Sl → Option (Option V) → Option Addr
  | .ow _, some (some (.ref a)) => some a
  | .nw _ _ _, some (some (.ref a)) => some a
  | _, _ => none

/-- the state as the plain layer sees it -/
structure DI (K : PySem.W.Frag) (B : Bs) (env : DEnv) (n : Nat) (σ : L2.St) (Hs H : Hp) : Prop where
  sub : Same Hs H
  pen : ∀ p, B.pn = some p → p ∈ B.mu ∧ PenOk Hs H p n
  gr : Grow B.mu B.Hs0 B.H0 Hs H
  len : env.length = σ.length
  ok : ∀ (i : Nat) (sl : Sl), env[i]? = some sl → SlOk K B Hs H sl σ[i]?
  dis : ∀ (i j : Nat) (a : Addr) (si sj : Sl), env[i]? = some si → env[j]? = some sj → ownA si σ[i]? = some a → ownA sj σ[j]? = some a → i = j

/-- between two calls: what a call may do -/
structure Gone (pn : Option Addr) (n' : Nat) (Hs H Hs' H' : Hp) : Prop where
  gr : Grow pn.toList Hs H Hs' H'
  sub : Same Hs' H'
  pen : ∀ p, pn = some p → PenOk Hs' H' p n'

theorem pen_ne {Hs H : Hp} {p a : Addr} {n : Nat} {o : HO} (h : PenOk Hs H p n) (e : H a = some o) (ho : ∀ kvs, o ≠ .dK kvs) : a ≠ p := by
  rintro rfl
  obtain ⟨_, _, _, _, e', _⟩ := h
  rw [e] at e'
  exact ho _ (Option.some.inj e')

theorem DI.call {K : PySem.W.Frag} {B : Bs} {env : DEnv} {n n' : Nat} {σ : L2.St} {Hs H Hs' H' : Hp} (I : DI K B env n σ Hs H) (g : Gone B.pn n' Hs H Hs' H') : DI K B env n' σ Hs' H' := by
  have keep : ∀ a o, H a = some o → (∀ kvs, o ≠ .dK kvs) → H' a = some o := fun a o e ho => by
    refine g.gr.ex a o ?_ e
    intro hm
    cases hp : B.pn with
    | none => rw [hp] at hm; simp at hm
    | some p =>
      rw [hp] at hm
      have : a = p := by simpa using hm
      exact pen_ne (I.pen p hp).2 e ho this
  refine ⟨g.sub, fun p hp => ⟨(I.pen p hp).1, g.pen p hp⟩, I.gr.trans (g.gr.mono fun x hx => ?_), I.len, fun i sl e => ?_, I.dis⟩
  · cases hp : B.pn with
    | none => rw [hp] at hx; simp at hx
    | some p =>
      rw [hp] at hx
      have : x = p := by simpa using hx
      rw [this]; exact (I.pen p hp).1
  · have h := I.ok i sl e
    cases sl with
    | un => trivial
    | sh d => obtain ⟨v, h1, h2⟩ := h; exact ⟨v, h1, h2.mono g.gr.sh⟩
    | ow l =>
      obtain ⟨a, vs, h1, h2, h3, h4, h5⟩ := h
      exact ⟨a, vs, h1, g.gr.fr a (by rw [h4]; simp) h2, h3, keep a _ h4 (fun _ z => nomatch z), h5.mono g.gr.sh⟩
    | nw c ns ds =>
      obtain ⟨a, dx, vs, h1, h2, h3, h4, h5, h6⟩ := h
      exact ⟨a, dx, vs, h1, g.gr.fr a (by rw [h4]; simp) h2, h3, keep a _ h4 (fun _ z => nomatch z), h5, h6.mono g.gr.sh⟩
theorem PenOk.grow {Hs H Hs' H' : Hp} {p : Addr} {n : Nat} {mu : List Addr} (h : PenOk Hs H p n) (g : Grow mu Hs H Hs' H') (e : H' p = H p) : PenOk Hs' H' p n := by
  obtain ⟨ca, ns, k, l, h1, h2, h3, h4⟩ := h
  exact ⟨ca, ns, k, l, by rw [e]; exact h1, g.fr p (by rw [h1]; simp) h2, g.sh _ _ h3, h4⟩
/-- a new shared object -/
theorem Gone.new {pn : Option Addr} {n : Nat} {Hs H : Hp} {p : Addr} {o : HO} (sub : Same Hs H) (hp : H p = none) (pen : ∀ q, pn = some q → PenOk Hs H q n) : Gone pn n Hs H (upd Hs p o) (upd H p o) := by
  have g : Grow pn.toList Hs H (upd Hs p o) (upd H p o) := Grow.new hp sub
  refine ⟨g, fun a u e => ?_, fun q hq => ?_⟩
  · by_cases h : a = p
    · subst h; rw [upd_same] at e ⊢; exact e
    · rw [upd_ne h] at e ⊢; exact sub _ _ e
  · refine (pen q hq).grow g ?_
    refine upd_ne ?_
    rintro rfl
    obtain ⟨_, _, _, _, e', _⟩ := pen _ hq
    rw [hp] at e'; cases e'
theorem Gone.refl {pn : Option Addr} {n : Nat} {Hs H : Hp} (sub : Same Hs H) (pen : ∀ q, pn = some q → PenOk Hs H q n) : Gone pn n Hs H Hs H := ⟨Grow.refl, sub, pen⟩
theorem Gone.trans {pn : Option Addr} {n n' : Nat} {Hs H Hs1 H1 Hs2 H2 : Hp} (a : Gone pn n Hs H Hs1 H1) (b : Gone pn n' Hs1 H1 Hs2 H2) : Gone pn n' Hs H Hs2 H2 := ⟨a.gr.trans b.gr, b.sub, b.pen⟩
theorem DI.pn {K : PySem.W.Frag} {B : Bs} {env : DEnv} {n : Nat} {σ : L2.St} {Hs H : Hp} (I : DI K B env n σ Hs H) : ∀ p, B.pn = some p → PenOk Hs H p n := fun p h => (I.pen p h).2
theorem DI.new {K : PySem.W.Frag} {B : Bs} {env : DEnv} {n : Nat} {σ : L2.St} {Hs H : Hp} {p : Addr} {o : HO} (I : DI K B env n σ Hs H) (hp : H p = none) : DI K B env n σ (upd Hs p o) (upd H p o) := I.call (Gone.new I.sub hp I.pn)
theorem same_new {Hs H : Hp} {p : Addr} {o : HO} (sub : Same Hs H) (hp : H p = none) : Same Hs (upd Hs p o) := fun a u h => by rw [upd_ne (ne_of_none h (sub.free hp))]; exact h

/-! ### readings -/
/-- an exception: its class, its fields -/
structure DX where
  c : Addr
  ns : List Str
  ds : List D
abbrev DR := D → Nat → Prop
abbrev DXR := DX → Nat → Prop
abbrev DT := DEnv → Nat → DR → DXR → Prop
abbrev DTT := DEnv → Nat → (Bool → Nat → Prop) → DXR → Prop
abbrev DTA := DEnv → Nat → (List D → Nat → Prop) → DXR → Prop
structure DEnds where
  nx : DEnv → Nat → Prop
  rt : DR
  ex : DX → DEnv → Nat → Prop
  bk : DEnv → Nat → Prop := fun _ _ => False
  ct : DEnv → Nat → Prop := fun _ _ => False
abbrev DS := DEnds → DEnv → Nat → Prop

def XRep (K : PySem.W.Frag) (Hs H : Hp) (x : DX) (cls : Value) (d : Option Addr) : Prop :=
  cls = .ref x.c ∧ ∃ dd vs, d = some dd ∧ H dd = some (.xd (x.ns.zip vs)) ∧ x.ns.length = vs.length ∧ Reps K Hs x.ds vs

/-- what follows a value; an exception -/
def Co (K : PySem.W.Frag) (B : Bs) (Hs H : Hp) (R : DR) (Q : VK) : Prop := ∀ v d n' Hs' H', Gone B.pn n' Hs H Hs' H' → Rep K Hs' d v → R d n' → Q v H'
def CoX (K : PySem.W.Frag) (B : Bs) (σ : L2.St) (Hs H : Hp) (Rx : DXR) : Prop := ∀ x cls d n' Hs' H', Gone B.pn n' Hs H Hs' H' → XRep K Hs' H' x cls d → Rx x n' → B.W cls d σ H'
theorem CoX.on {K : PySem.W.Frag} {B : Bs} {σ : L2.St} {Hs H Hs1 H1 : Hp} {n1 : Nat} {Rx : DXR} (c : CoX K B σ Hs H Rx) (g : Gone B.pn n1 Hs H Hs1 H1) : CoX K B σ Hs1 H1 Rx :=
  fun x cls d n' Hs' H' g' r q => c x cls d n' Hs' H' (g.trans g') r q
def lift (K : PySem.W.Frag) (B : Bs) (t : DT) : TE := fun σ H Q => ∃ Hs env n R Rx, DI K B env n σ Hs H ∧ t env n R Rx ∧ Co K B Hs H R Q ∧ CoX K B σ Hs H Rx
def liftT (K : PySem.W.Frag) (B : Bs) (t : DTT) : TT := fun σ H Q => ∃ Hs env n R Rx, DI K B env n σ Hs H ∧ t env n R Rx ∧
  (∀ b n' Hs' H', Gone B.pn n' Hs H Hs' H' → R b n' → Q b H') ∧ CoX K B σ Hs H Rx
/-- borrowed: a list of one's own may come out -/
def RepB (K : PySem.W.Frag) (Hs H : Hp) (d : D) (v : V) : Prop := Rep K Hs d v ∨ ∃ l a vs, d = .lst l ∧ v = .ref a ∧ H a = some (.lst vs) ∧ Reps K Hs l vs
def RepsB (K : PySem.W.Frag) (Hs H : Hp) : List D → List V → Prop
  | [], vs => vs = []
  | d :: l, vs => ∃ v r, vs = v :: r ∧ RepB K Hs H d v ∧ RepsB K Hs H l r
theorem RepB.on {K : PySem.W.Frag} {pn : Option Addr} {n n' : Nat} {Hs H Hs' H' : Hp} {d : D} {v : V} (r : RepB K Hs H d v) (pen : ∀ p, pn = some p → PenOk Hs H p n) (g : Gone pn n' Hs H Hs' H') : RepB K Hs' H' d v := by
  rcases r with r | ⟨l, a, vs, h1, h2, h3, h4⟩
  · exact Or.inl (r.mono g.gr.sh)
  · refine Or.inr ⟨l, a, vs, h1, h2, g.gr.ex a _ ?_ h3, h4.mono g.gr.sh⟩
    intro hm
    cases hp : pn with
    | none => rw [hp] at hm; simp at hm
    | some p =>
      rw [hp] at hm
      have e : a = p := by simpa using hm
      exact pen_ne (pen p hp) h3 (fun _ z => nomatch z) e
theorem RepsB.on {K : PySem.W.Frag} {pn : Option Addr} {n n' : Nat} {Hs H Hs' H' : Hp} (pen : ∀ p, pn = some p → PenOk Hs H p n) (g : Gone pn n' Hs H Hs' H') : ∀ {l : List D} {vs : List V}, RepsB K Hs H l vs → RepsB K Hs' H' l vs
  | [], _, h => h
  | d :: l, vs, h => by
    obtain ⟨v, r, h1, h2, h3⟩ := h
    exact ⟨v, r, h1, h2.on pen g, RepsB.on pen g h3⟩
theorem Reps.b {K : PySem.W.Frag} {Hs H : Hp} : ∀ {l : List D} {vs : List V}, Reps K Hs l vs → RepsB K Hs H l vs
  | [], _, h => h
  | d :: l, vs, h => by
    obtain ⟨v, r, h1, h2, h3⟩ := h
    exact ⟨v, r, h1, Or.inl h2, Reps.b h3⟩
def liftA (K : PySem.W.Frag) (B : Bs) (t : DTA) : TA := fun σ H Q => ∃ Hs env n R Rx, DI K B env n σ Hs H ∧ t env n R Rx ∧
  (∀ vs ds n' Hs' H', Gone B.pn n' Hs H Hs' H' → Reps K Hs' ds vs → R ds n' → Q vs H') ∧ CoX K B σ Hs H Rx
def liftAB (K : PySem.W.Frag) (B : Bs) (t : DTA) : TA := fun σ H Q => ∃ Hs env n R Rx, DI K B env n σ Hs H ∧ t env n R Rx ∧
  (∀ vs ds n' Hs' H', Gone B.pn n' Hs H Hs' H' → RepsB K Hs' H' ds vs → R ds n' → Q vs H') ∧ CoX K B σ Hs H Rx
def liftB (K : PySem.W.Frag) (B : Bs) (t : DT) : TE := fun σ H Q => ∃ Hs env n R Rx, DI K B env n σ Hs H ∧ t env n R Rx ∧
  (∀ v d n' Hs' H', Gone B.pn n' Hs H Hs' H' → RepB K Hs' H' d v → R d n' → Q v H') ∧ CoX K B σ Hs H Rx
/-- a new list -/
def liftF (K : PySem.W.Frag) (B : Bs) (t : DTA) : TE := fun σ H Q => ∃ Hs env n R Rx, DI K B env n σ Hs H ∧ t env n R Rx ∧
  (∀ a vs ds n' Hs' H', Gone B.pn n' Hs H Hs' H' → H a = none → Hs' a = none → H' a = some (.lst vs) → Reps K Hs' ds vs → R ds n' → Q (.ref a) H') ∧ CoX K B σ Hs H Rx
structure Link (K : PySem.W.Frag) (B : Bs) (Hs : Hp) (Dd : DEnds) (D : Ends) : Prop where
  nx : ∀ env n σ Hs' H, Same Hs Hs' → DI K B env n σ Hs' H → Dd.nx env n → D.nx σ H
  rt : ∀ v d env n σ Hs' H, Same Hs Hs' → DI K B env n σ Hs' H → Rep K Hs' d v → Dd.rt d n → D.rt v H
  bk : ∀ env n σ Hs' H, Same Hs Hs' → DI K B env n σ Hs' H → Dd.bk env n → D.bk σ H
  ct : ∀ env n σ Hs' H, Same Hs Hs' → DI K B env n σ Hs' H → Dd.ct env n → D.ct σ H
  ex : ∀ x cls d env n σ Hs' H, Same Hs Hs' → DI K B env n σ Hs' H → XRep K Hs' H x cls d → Dd.ex x env n → B.W cls d σ H
theorem Link.on {K : PySem.W.Frag} {B : Bs} {Hs Hs1 : Hp} {Dd : DEnds} {D : Ends} (L : Link K B Hs Dd D) (s : Same Hs Hs1) : Link K B Hs1 Dd D :=
  ⟨fun env n σ Hs' H s' => L.nx env n σ Hs' H (s.trans s'), fun v d env n σ Hs' H s' => L.rt v d env n σ Hs' H (s.trans s'), fun env n σ Hs' H s' => L.bk env n σ Hs' H (s.trans s'), fun env n σ Hs' H s' => L.ct env n σ Hs' H (s.trans s'),
    fun x cls d env n σ Hs' H s' => L.ex x cls d env n σ Hs' H (s.trans s')⟩
def liftS (K : PySem.W.Frag) (B : Bs) (t : DS) : TS := fun D σ H => ∃ Hs env n Dd, DI K B env n σ Hs H ∧ t Dd env n ∧ Link K B Hs Dd D
theorem Link.cox {K : PySem.W.Frag} {B : Bs} {Dd : DEnds} {D : Ends} {env : DEnv} {n : Nat} {σ : L2.St} {Hs H : Hp} (L : Link K B Hs Dd D) (I : DI K B env n σ Hs H) : CoX K B σ Hs H fun x n => Dd.ex x env n :=
  fun x cls d n' Hs' H' g r h => L.ex x cls d env n' σ Hs' H' g.gr.sh (I.call g) r h

section
variable {X : Cx} {B : Bs} {e : Expr}
theorem pe_imp {t t' : TE} (h : PE X e t) (i : ∀ σ H Q, t' σ H Q → t σ H Q) : PE X e t' := ⟨fun pins s σ H Q I q => h.run pins s σ H Q I (i σ H Q q)⟩
theorem pt_imp {t t' : TT} (h : PT X e t) (i : ∀ σ H Q, t' σ H Q → t σ H Q) : PT X e t' := ⟨fun pins s σ H Q I q => h.run pins s σ H Q I (i σ H Q q)⟩
theorem pa_imp {es : List Expr} {t t' : TA} (h : PA X es t) (i : ∀ σ H Q, t' σ H Q → t σ H Q) : PA X es t' := ⟨fun pos pins s σ H Q I q => h.run pos pins s σ H Q I (i σ H Q q)⟩
theorem ps_imp {st : Stmt} {t t' : TS} (h : PS X st t) (i : ∀ D σ H, t' D σ H → t D σ H) : PS X st t' := ⟨fun pins s σ H D I q => h.run pins s σ H D I (i D σ H q)⟩
theorem pss_imp {st : List Stmt} {t t' : TS} (h : PSs X st t) (i : ∀ D σ H, t' D σ H → t D σ H) : PSs X st t' := ⟨fun pins s σ H D I q => h.run pins s σ H D I (i D σ H q)⟩
/-- of a borrowed value: a plain one is one -/
theorem DE.b {t : DT} (h : PE X e (lift X.K B t)) : PE X e (liftB X.K B t) := pe_imp h fun σ H Q ⟨Hs, env, n, R, Rx, I, ht, k, kx⟩ =>
  ⟨Hs, env, n, R, Rx, I, ht, fun v d n' Hs' H' g r q => k v d n' Hs' H' g (Or.inl r) q, kx⟩
end

end DL

namespace DL
open PySem L2

theorem RepB.list {K : PySem.W.Frag} {Hs H : Hp} {l : List D} {v : V} (sub : Same Hs H) (r : RepB K Hs H (.lst l) v) : ∃ a vs, v = .ref a ∧ H a = some (.lst vs) ∧ Reps K Hs l vs := by
  rcases r with r | ⟨l', a, vs, h1, h2, h3, h4⟩
  · obtain ⟨a, vs, h1, h2, h3⟩ := r
    exact ⟨a, vs, h1, sub _ _ h2, h3⟩
  · cases h1
    exact ⟨a, vs, h2, h3, h4⟩
theorem RepB.tup {K : PySem.W.Frag} {Hs H : Hp} {l : List D} {v : V} (sub : Same Hs H) (r : RepB K Hs H (.tup l) v) : ∃ a vs, v = .ref a ∧ SqT K H a vs ∧ Reps K Hs l vs := by
  rcases r with r | ⟨l', a, vs, h1, _⟩
  · obtain ⟨a, vs, h1, h2, h3⟩ := r
    exact ⟨a, vs, h1, same_t sub h2, h3⟩
  · cases h1
theorem RepB.ne {K : PySem.W.Frag} {Hs H : Hp} {d : D} {v : V} (h : ∀ l, d ≠ .lst l) (r : RepB K Hs H d v) : Rep K Hs d v := by
  rcases r with r | ⟨l', a, vs, h1, _⟩
  · exact r
  · exact absurd h1 (h l')

section
variable {X : Cx} {B : Bs} {e a b c : Expr} {pos : Pos} {t ta tb : DT}

/-! ### names and constants -/
def dVar (i : Nat) : DT := fun env n R _ => match env[i]? with
  | some (.sh d) => R d n
  | _ => False
theorem de_var (i : Nat) {x : Str} (h : PE X (.Name x pos) (tVar i)) : PE X (.Name x pos) (lift X.K B (dVar i)) := pe_imp h fun σ H Q ⟨Hs, env, n, R, Rx, I, ht, k, kx⟩ => by
  have ht' : (match env[i]? with | some (.sh d) => R d n | _ => False) := ht
  cases e : env[i]? with
  | none => rw [e] at ht'; exact ht'.elim
  | some sl =>
    rw [e] at ht'
    cases sl with
    | sh d =>
      obtain ⟨v, h1, h2⟩ := I.ok i _ e
      exact ⟨v, h1, k v d n Hs H (Gone.refl I.sub I.pn) h2 ht'⟩
    | _ => exact ht'.elim
/-- a list of one's own, borrowed -/
def dOwn (i : Nat) : DT := fun env n R _ => match env[i]? with
  | some (.ow l) => R (.lst l) n
  | _ => False
theorem db_own (i : Nat) {x : Str} (h : PE X (.Name x pos) (tVar i)) : PE X (.Name x pos) (liftB X.K B (dOwn i)) := pe_imp h fun σ H Q ⟨Hs, env, n, R, Rx, I, ht, k, kx⟩ => by
  have ht' : (match env[i]? with | some (.ow l) => R (.lst l) n | _ => False) := ht
  cases e : env[i]? with
  | none => rw [e] at ht'; exact ht'.elim
  | some sl =>
    rw [e] at ht'
    cases sl with
    | ow l =>
      obtain ⟨a, vs, h1, h2, h3, h4, h5⟩ := I.ok i _ e
      exact ⟨.ref a, h1, k _ (.lst l) n Hs H (Gone.refl I.sub I.pn) (Or.inr ⟨l, a, vs, rfl, rfl, h4, h5⟩) ht'⟩
    | _ => exact ht'.elim
def dC (d : D) : DT := fun _ n R _ => R d n
theorem de_c {v : V} {d : D} (h : PE X e (tC v)) (r : ∀ Hs, Rep X.K Hs d v) : PE X e (lift X.K B (dC d)) := pe_imp h fun σ H Q ⟨Hs, env, n, R, Rx, I, ht, k, kx⟩ =>
  k v d n Hs H (Gone.refl I.sub I.pn) (r Hs) ht
theorem de_int {i : Int} {j : Nat} : PE X (.Constant (.int i) j pos) (lift X.K B (dC (.int i))) := de_c pe_int fun _ => rfl
theorem de_bl {x : Bool} {j : Nat} : PE X (.Constant (.bool x) j pos) (lift X.K B (dC (.bl x))) := de_c pe_bl fun _ => rfl
theorem de_non {j : Nat} : PE X (.Constant .none j pos) (lift X.K B (dC .non)) := de_c pe_non fun _ => rfl
theorem de_str {x : Str} {j : Nat} : PE X (.Constant (.str x) j pos) (lift X.K B (dC (.str x))) := de_c pe_str fun _ => rfl

/-! ### operators on values -/
/-- f tells what the operator r does upon plain data -/
def OpD (K : PySem.W.Frag) (r : R2) (f : D → D → (D → Prop) → Prop) : Prop := ∀ (pn : Option Addr) (n : Nat) (Hs H : Hp) (x y : V) (dx dy : D) (R : D → Prop) (Q : VK),
  Same Hs H → (∀ p, pn = some p → PenOk Hs H p n) → RepB K Hs H dx x → RepB K Hs H dy y → f dx dy R → (∀ v d Hs' H', Gone pn n Hs H Hs' H' → Rep K Hs' d v → R d → Q v H') → r x y H Q
def UnD (K : PySem.W.Frag) (r : V → Hp → VK → Prop) (f : D → (D → Prop) → Prop) : Prop := ∀ (pn : Option Addr) (n : Nat) (Hs H : Hp) (x : V) (dx : D) (R : D → Prop) (Q : VK),
  Same Hs H → (∀ p, pn = some p → PenOk Hs H p n) → RepB K Hs H dx x → f dx R → (∀ v d Hs' H', Gone pn n Hs H Hs' H' → Rep K Hs' d v → R d → Q v H') → r x H Q
def CaD (K : PySem.W.Frag) (r : List V → Hp → VK → Prop) (f : List D → (D → Prop) → Prop) : Prop := ∀ (pn : Option Addr) (n : Nat) (Hs H : Hp) (xs : List V) (ds : List D) (R : D → Prop) (Q : VK),
  Same Hs H → (∀ p, pn = some p → PenOk Hs H p n) → RepsB K Hs H ds xs → f ds R → (∀ v d Hs' H', Gone pn n Hs H Hs' H' → Rep K Hs' d v → R d → Q v H') → r xs H Q
def dOp (f : D → D → (D → Prop) → Prop) (ta tb : DT) : DT := fun env n R Rx => ta env n (fun x n1 => tb env n1 (fun y n2 => f x y fun z => R z n2) Rx) Rx
def dUn (f : D → (D → Prop) → Prop) (ta : DT) : DT := fun env n R Rx => ta env n (fun x n1 => f x fun z => R z n1) Rx
def dCa (f : List D → (D → Prop) → Prop) (ta : DTA) : DT := fun env n R Rx => ta env n (fun xs n1 => f xs fun z => R z n1) Rx

theorem op_lift {r : R2} {f : D → D → (D → Prop) → Prop} (hf : OpD X.K r f) {σ : L2.St} {H : Hp} {Q : VK} (h : lift X.K B (dOp f ta tb) σ H Q) : tOp r (liftB X.K B ta) (liftB X.K B tb) σ H Q := by
  obtain ⟨Hs, env, n, R, Rx, I, ht, k, kx⟩ := h
  refine ⟨Hs, env, n, _, Rx, I, ht, fun x dx n1 Hs1 H1 g1 r1 h1 => ?_, kx⟩
  refine ⟨Hs1, env, n1, _, Rx, I.call g1, h1, fun y dy n2 Hs2 H2 g2 r2 h2 => ?_, kx.on g1⟩
  exact hf B.pn n2 Hs2 H2 x y dx dy _ Q g2.sub g2.pen (r1.on g1.pen g2) r2 h2 fun v d Hs' H' g r q => k v d n2 Hs' H' ((g1.trans g2).trans g) r q
theorem de_op {op : Operator} {r : R2} {f : D → D → (D → Prop) → Prop} (ho : OpR X (binaryOp op) r) (hf : OpD X.K r f) (ha : PE X a (liftB X.K B ta)) (hb : PE X b (liftB X.K B tb)) :
    PE X (.BinOp a op b pos) (lift X.K B (dOp f ta tb)) := pe_imp (pe_op ho ha hb) fun σ H Q h => op_lift hf h
theorem de_cmp {op : CmpOp} {r : R2} {f : D → D → (D → Prop) → Prop} (ho : OpR X (compareOp op) r) (hf : OpD X.K r f) (ha : PE X a (liftB X.K B ta)) (hb : PE X b (liftB X.K B tb)) (hm : behindInMarks op b = false) :
    PE X (.Compare a [op] [b] pos) (lift X.K B (dOp f ta tb)) := pe_imp (pe_cmpR ho ha hb hm) fun σ H Q h => op_lift hf h
theorem de_ix {r : R2} {f : D → D → (D → Prop) → Prop} (ho : IxR X r) (hf : OpD X.K r f) (ha : PE X a (liftB X.K B ta)) (hb : PE X b (liftB X.K B tb)) (hs : PlainIx b) :
    PE X (.Subscript a b pos) (lift X.K B (dOp f ta tb)) := pe_imp (pe_ix ho ha hb hs) fun σ H Q h => op_lift hf h
theorem de_un {op : UnaryOp} {r : V → Hp → VK → Prop} {f : D → (D → Prop) → Prop} (ho : UnR X (unaryOp op) r) (hf : UnD X.K r f) (ha : PE X a (liftB X.K B ta)) :
    PE X (.UnaryOp op a pos) (lift X.K B (dUn f ta)) := pe_imp (pe_un ho ha) fun σ H Q ⟨Hs, env, n, R, Rx, I, ht, k, kx⟩ =>
  ⟨Hs, env, n, _, Rx, I, ht, fun x dx n1 Hs1 H1 g1 r1 h1 => hf B.pn n1 Hs1 H1 x dx _ Q g1.sub g1.pen r1 h1 fun v d Hs' H' g r q => k v d n1 Hs' H' (g1.trans g) r q, kx⟩

/-! ### tests -/
def boolOf (R : Bool → Nat → Prop) : DR := fun d n => match d with
  | .bl k => R k n
  | _ => False
def dTest (t : DT) : DTT := fun env n R Rx => t env n (boolOf R) Rx
theorem bool_of {K : PySem.W.Frag} {Hs : Hp} {d : D} {v : V} {n : Nat} {R : Bool → Nat → Prop} (r : Rep K Hs d v) (h : boolOf R d n) : ∃ k, v = .bl k ∧ R k n := by
  cases d <;> first | exact False.elim h | skip
  exact ⟨_, r, h⟩
theorem dt_cmp {op : CmpOp} {r : R2} {f : D → D → (D → Prop) → Prop} (ho : OpR X (compareOp op) r) (hf : OpD X.K r f) (ha : PE X a (liftB X.K B ta)) (hb : PE X b (liftB X.K B tb)) (hm : behindInMarks op b = false) :
    PT X (.Compare a [op] [b] pos) (liftT X.K B (dTest (dOp f ta tb))) := pt_imp (pt_cmpR ho ha hb hm) fun σ H Q ⟨Hs, env, n, R, Rx, I, ht, k, kx⟩ =>
  op_lift hf ⟨Hs, env, n, boolOf R, Rx, I, ht, fun v d n' Hs' H' g r h => by
    obtain ⟨j, e, q⟩ := bool_of r h
    exact ⟨j, e, k j n' Hs' H' g q⟩, kx⟩
theorem dt_val (h : PE X e (lift X.K B t)) (he : ∀ whole, isTrue e X.env whole = (do let v ← whole; standAt e.pos; holding [v] (truthy v)) := by intro _; rfl) : PT X e (liftT X.K B (dTest t)) :=
  pt_imp (pt_val h he) fun σ H Q ⟨Hs, env, n, R, Rx, I, ht, k, kx⟩ => ⟨Hs, env, n, boolOf R, Rx, I, ht, fun v d n' Hs' H' g r h => by
    obtain ⟨j, e, q⟩ := bool_of r h
    exact ⟨j, e, k j n' Hs' H' g q⟩, kx⟩
/-- truth of any plain value -/
def truD : D → Option Bool
  | .non => some false
  | .bl b => some b
  | .int i => some (i != 0)
  | .str x => if x.length ≤ sizeLine then some ((x.length : Int) != 0) else none
  | .tup l => some (!l.isEmpty)
  | .lst l => some (!l.isEmpty)
  | .dct ks _ => some (!ks.isEmpty)
  | _ => none
def truOf (R : Bool → Nat → Prop) : DR := fun d n => match truD d with
  | some k => R k n
  | none => False
def dTru (t : DT) : DTT := fun env n R Rx => t env n (truOf R) Rx
theorem reps_empty {K : PySem.W.Frag} {H : Hp} {l : List D} {vs : List V} (r : Reps K H l vs) : l.isEmpty = vs.isEmpty := by
  have h := r.length
  cases l <;> cases vs <;> simp_all
theorem tru_of {K : PySem.W.Frag} {Hs H : Hp} {d : D} {v : V} {n : Nat} {R : Bool → Nat → Prop} (sub : Same Hs H) (r : RepB K Hs H d v) (h : truOf R d n) : ∃ k, TruV K v H k ∧ R k n := by
  unfold truOf at h
  cases d with
  | non => cases r.ne (by intro l z; cases z); exact ⟨_, rfl, h⟩
  | bl x => cases r.ne (by intro l z; cases z); exact ⟨_, rfl, h⟩
  | int x => cases r.ne (by intro l z; cases z); exact ⟨_, rfl, h⟩
  | str x =>
    cases r.ne (by intro l z; cases z)
    simp only [truD] at h
    by_cases hl : x.length ≤ sizeLine
    · rw [if_pos hl] at h
      exact ⟨_, ⟨hl, rfl⟩, h⟩
    · rw [if_neg hl] at h
      exact h.elim
  | tup l =>
    obtain ⟨a, vs, rfl, h2, h3⟩ := r.tup sub
    refine ⟨!l.isEmpty, Or.inr (Or.inl ⟨vs, h2, ?_⟩), h⟩
    rw [reps_empty h3]
  | lst l =>
    obtain ⟨a, vs, rfl, h2, h3⟩ := r.list sub
    refine ⟨!l.isEmpty, Or.inl ⟨vs, SqL.of h2, ?_⟩, h⟩
    rw [reps_empty h3]
  | dct ks l =>
    obtain ⟨a, vs, rfl, h2, h3, _⟩ := r.ne (by intro l z; cases z)
    refine ⟨!ks.isEmpty, Or.inr (Or.inr ⟨_, sub _ _ h2, ?_⟩), h⟩
    cases ks <;> cases vs <;> simp_all
  | obj _ _ _ => exact False.elim h
  | ref _ => exact False.elim h
  | ty _ => exact False.elim h
  | scr _ => exact False.elim h
theorem dt_tru (h : PE X e (liftB X.K B t)) (he : ∀ whole, isTrue e X.env whole = (do let v ← whole; standAt e.pos; holding [v] (truthy v)) := by intro _; rfl) : PT X e (liftT X.K B (dTru t)) :=
  pt_imp (pt_truth h he) fun σ H Q ⟨Hs, env, n, R, Rx, I, ht, k, kx⟩ => ⟨Hs, env, n, truOf R, Rx, I, ht, fun v d n' Hs' H' g r h => by
    obtain ⟨j, e, q⟩ := tru_of g.sub r h
    exact ⟨j, e, k j n' Hs' H' g q⟩, kx⟩
variable {u w : DTT} {rest : List Expr}
def dAnd (u w : DTT) : DTT := fun env n R Rx => u env n (fun k n1 => if k = true then w env n1 R Rx else R false n1) Rx
def dOr (u w : DTT) : DTT := fun env n R Rx => u env n (fun k n1 => if k = true then R true n1 else w env n1 R Rx) Rx
def dNot (u : DTT) : DTT := fun env n R Rx => u env n (fun k n1 => R (!k) n1) Rx
theorem dw_and1 (h : PT X a (liftT X.K B u)) : PW X (.BoolOp .And [a] pos) (liftT X.K B u) := pw_and1 h
theorem dw_or1 (h : PT X a (liftT X.K B u)) : PW X (.BoolOp .Or [a] pos) (liftT X.K B u) := pw_or1 h
theorem pw_imp {t t' : TT} (h : PW X e t) (i : ∀ σ H Q, t' σ H Q → t σ H Q) : PW X e t' := ⟨fun whole pins s σ H Q I q => h.run whole pins s σ H Q I (i σ H Q q)⟩
theorem dw_and (h : PT X a (liftT X.K B u)) (h' : PW X (.BoolOp .And (b :: rest) pos) (liftT X.K B w)) : PW X (.BoolOp .And (a :: b :: rest) pos) (liftT X.K B (dAnd u w)) :=
  pw_imp (pw_and h h') fun σ H Q ⟨Hs, env, n, R, Rx, I, ht, k, kx⟩ => ⟨Hs, env, n, _, Rx, I, ht, fun j n1 Hs1 H1 g1 h1 => by
    cases j with
    | true => exact ⟨Hs1, env, n1, R, Rx, I.call g1, h1, fun c n2 Hs2 H2 g2 q => k c n2 Hs2 H2 (g1.trans g2) q, kx.on g1⟩
    | false => exact k false n1 Hs1 H1 g1 h1, kx⟩
theorem dw_or (h : PT X a (liftT X.K B u)) (h' : PW X (.BoolOp .Or (b :: rest) pos) (liftT X.K B w)) : PW X (.BoolOp .Or (a :: b :: rest) pos) (liftT X.K B (dOr u w)) :=
  pw_imp (pw_or h h') fun σ H Q ⟨Hs, env, n, R, Rx, I, ht, k, kx⟩ => ⟨Hs, env, n, _, Rx, I, ht, fun j n1 Hs1 H1 g1 h1 => by
    cases j with
    | true => exact k true n1 Hs1 H1 g1 h1
    | false => exact ⟨Hs1, env, n1, R, Rx, I.call g1, h1, fun c n2 Hs2 H2 g2 q => k c n2 Hs2 H2 (g1.trans g2) q, kx.on g1⟩, kx⟩
theorem dt_not (h : PT X a (liftT X.K B u)) : PT X (.UnaryOp .Not a pos) (liftT X.K B (dNot u)) := pt_imp (pt_not h) fun σ H Q ⟨Hs, env, n, R, Rx, I, ht, k, kx⟩ =>
  ⟨Hs, env, n, _, Rx, I, ht, fun j n1 Hs1 H1 g1 h1 => k (!j) n1 Hs1 H1 g1 h1, kx⟩
/-- and, or, not as values of bools -/
def dAndV (ta tb : DT) : DT := fun env n R Rx => ta env n (boolOf fun k n1 => if k = true then tb env n1 R Rx else R (.bl false) n1) Rx
def dOrV (ta tb : DT) : DT := fun env n R Rx => ta env n (boolOf fun k n1 => if k = true then R (.bl true) n1 else tb env n1 R Rx) Rx
def dNotV (ta : DT) : DT := fun env n R Rx => ta env n (boolOf fun k n1 => R (.bl (!k)) n1) Rx
theorem de_one {op : BoolOp} (h : PE X a (lift X.K B t)) : PE X (.BoolOp op [a] pos) (lift X.K B t) := pe_one h
theorem de_and (h : PE X a (lift X.K B ta)) (h' : PE X (.BoolOp .And (b :: rest) pos) (lift X.K B tb)) : PE X (.BoolOp .And (a :: b :: rest) pos) (lift X.K B (dAndV ta tb)) :=
  pe_imp (pe_and h h') fun σ H Q ⟨Hs, env, n, R, Rx, I, ht, k, kx⟩ => ⟨Hs, env, n, _, Rx, I, ht, fun v d n1 Hs1 H1 g1 r1 h1 => by
    obtain ⟨j, e, q⟩ := bool_of r1 h1
    refine ⟨j, e, ?_⟩
    cases j with
    | true => exact ⟨Hs1, env, n1, R, Rx, I.call g1, q, fun c dd n2 Hs2 H2 g2 r q => k c dd n2 Hs2 H2 (g1.trans g2) r q, kx.on g1⟩
    | false => exact k _ (.bl false) n1 Hs1 H1 g1 rfl q, kx⟩
theorem de_or (h : PE X a (lift X.K B ta)) (h' : PE X (.BoolOp .Or (b :: rest) pos) (lift X.K B tb)) : PE X (.BoolOp .Or (a :: b :: rest) pos) (lift X.K B (dOrV ta tb)) :=
  pe_imp (pe_or h h') fun σ H Q ⟨Hs, env, n, R, Rx, I, ht, k, kx⟩ => ⟨Hs, env, n, _, Rx, I, ht, fun v d n1 Hs1 H1 g1 r1 h1 => by
    obtain ⟨j, e, q⟩ := bool_of r1 h1
    refine ⟨j, e, ?_⟩
    cases j with
    | true => exact k _ (.bl true) n1 Hs1 H1 g1 rfl q
    | false => exact ⟨Hs1, env, n1, R, Rx, I.call g1, q, fun c dd n2 Hs2 H2 g2 r q => k c dd n2 Hs2 H2 (g1.trans g2) r q, kx.on g1⟩, kx⟩
theorem de_not (h : PE X a (lift X.K B ta)) : PE X (.UnaryOp .Not a pos) (lift X.K B (dNotV ta)) :=
  pe_imp (pe_not h) fun σ H Q ⟨Hs, env, n, R, Rx, I, ht, k, kx⟩ => ⟨Hs, env, n, _, Rx, I, ht, fun v d n1 Hs1 H1 g1 r1 h1 => by
    obtain ⟨j, e, q⟩ := bool_of r1 h1
    exact ⟨j, e, k _ (.bl (!j)) n1 Hs1 H1 g1 rfl q⟩, kx⟩
def dIf (u : DTT) (ta tb : DT) : DT := fun env n R Rx => u env n (fun k n1 => if k = true then ta env n1 R Rx else tb env n1 R Rx) Rx
theorem de_if (hc : PT X c (liftT X.K B u)) (ha : PE X a (lift X.K B ta)) (hb : PE X b (lift X.K B tb)) : PE X (.IfExp c a b pos) (lift X.K B (dIf u ta tb)) :=
  pe_imp (pe_ifExp hc ha hb) fun σ H Q ⟨Hs, env, n, R, Rx, I, ht, k, kx⟩ => ⟨Hs, env, n, _, Rx, I, ht, fun j n1 Hs1 H1 g1 h1 => by
    cases j with
    | true => exact ⟨Hs1, env, n1, R, Rx, I.call g1, h1, fun c d n2 Hs2 H2 g2 r q => k c d n2 Hs2 H2 (g1.trans g2) r q, kx.on g1⟩
    | false => exact ⟨Hs1, env, n1, R, Rx, I.call g1, h1, fun c d n2 Hs2 H2 g2 r q => k c d n2 Hs2 H2 (g1.trans g2) r q, kx.on g1⟩, kx⟩

/-! ### arguments -/
variable {es : List Expr} {tA : DTA}
def aNil : DTA := fun _ n R _ => R [] n
def aCons (t : DT) (u : DTA) : DTA := fun env n R Rx => t env n (fun d n1 => u env n1 (fun ds n2 => R (d :: ds) n2) Rx) Rx
theorem da_nil : PA X [] (liftA X.K B aNil) := pa_imp pa_nil fun σ H Q ⟨Hs, env, n, R, Rx, I, ht, k, kx⟩ => k [] [] n Hs H (Gone.refl I.sub I.pn) Reps.nil ht
theorem da_cons (ha : PE X e (lift X.K B t)) (hr : PA X es (liftA X.K B tA)) (hs : starEach (e :: es) X.env = (false, eval e X.env) :: starEach es X.env := by rfl) : PA X (e :: es) (liftA X.K B (aCons t tA)) :=
  pa_imp (pa_cons ha hr hs) fun σ H Q ⟨Hs, env, n, R, Rx, I, ht, k, kx⟩ => ⟨Hs, env, n, _, Rx, I, ht, fun v d n1 Hs1 H1 g1 r1 h1 =>
    ⟨Hs1, env, n1, _, Rx, I.call g1, h1, fun vs ds n2 Hs2 H2 g2 r2 h2 => k (v :: vs) (d :: ds) n2 Hs2 H2 (g1.trans g2) ⟨v, vs, rfl, r1.mono g2.gr.sh, r2⟩ h2, kx.on g1⟩, kx⟩
theorem dab_nil : PA X [] (liftAB X.K B aNil) := pa_imp pa_nil fun σ H Q ⟨Hs, env, n, R, Rx, I, ht, k, kx⟩ => k [] [] n Hs H (Gone.refl I.sub I.pn) rfl ht
theorem dab_cons (ha : PE X e (liftB X.K B t)) (hr : PA X es (liftAB X.K B tA)) (hs : starEach (e :: es) X.env = (false, eval e X.env) :: starEach es X.env := by rfl) : PA X (e :: es) (liftAB X.K B (aCons t tA)) :=
  pa_imp (pa_cons ha hr hs) fun σ H Q ⟨Hs, env, n, R, Rx, I, ht, k, kx⟩ => ⟨Hs, env, n, _, Rx, I, ht, fun v d n1 Hs1 H1 g1 r1 h1 =>
    ⟨Hs1, env, n1, _, Rx, I.call g1, h1, fun vs ds n2 Hs2 H2 g2 r2 h2 => k (v :: vs) (d :: ds) n2 Hs2 H2 (g1.trans g2) ⟨v, vs, rfl, r1.on g1.pen g2, r2⟩ h2, kx.on g1⟩, kx⟩
/-- built-in functions, built-in types -/
theorem de_callB {id : String} {r : List V → Hp → VK → Prop} {f : List D → (D → Prop) → Prop} {x : Str} {p : Pos} (hc : CallR X (.builtin id) r) (hf : CaD X.K r f) (hg : Gl X x) (hm : X.mg x = none) (hv : bootBuiltins x = some (.builtin id))
    (ha : PA X (e :: es) (liftAB X.K B tA)) (h : PE X (.Call (.Name x p) (e :: es) [] pos) (tCB r (liftAB X.K B tA))) : PE X (.Call (.Name x p) (e :: es) [] pos) (lift X.K B (dCa f tA)) :=
  pe_imp h fun σ H Q ⟨Hs, env, n, R, Rx, I, ht, k, kx⟩ => ⟨Hs, env, n, _, Rx, I, ht, fun vs ds n1 Hs1 H1 g1 r1 h1 => hf B.pn n1 Hs1 H1 vs ds _ Q g1.sub g1.pen r1 h1 fun v d Hs' H' g r q => k v d n1 Hs' H' (g1.trans g) r q, kx⟩
theorem ca_lift {r : List V → Hp → VK → Prop} {f : List D → (D → Prop) → Prop} (hf : CaD X.K r f) (h : PE X e (tCB r (liftAB X.K B tA))) : PE X e (lift X.K B (dCa f tA)) :=
  pe_imp h fun σ H Q ⟨Hs, env, n, R, Rx, I, ht, k, kx⟩ => ⟨Hs, env, n, _, Rx, I, ht, fun vs ds n1 Hs1 H1 g1 r1 h1 => hf B.pn n1 Hs1 H1 vs ds _ Q g1.sub g1.pen r1 h1 fun v d Hs' H' g r q => k v d n1 Hs' H' (g1.trans g) r q, kx⟩

/-! ### displays -/
def dTup (tA : DTA) : DT := fun env n R Rx => tA env n (fun ds n1 => ds.length ≤ sizeLine ∧ R (.tup ds) n1) Rx
def dLst (tA : DTA) : DT := fun env n R Rx => tA env n (fun ds n1 => ds.length ≤ sizeLine ∧ R (.lst ds) n1) Rx
def fLst (tA : DTA) : DTA := fun env n R Rx => tA env n (fun ds n1 => ds.length ≤ sizeLine ∧ R ds n1) Rx
theorem de_tup {k : Nat} (h : PA X es (liftA X.K B tA)) : PE X (.Tuple es k pos) (lift X.K B (dTup tA)) := pe_imp (pe_tup h) fun σ H Q ⟨Hs, env, n, R, Rx, I, ht, k, kx⟩ =>
  ⟨Hs, env, n, _, Rx, I, ht, fun vs ds n1 Hs1 H1 g1 r1 h1 => ⟨by rw [← r1.length]; exact h1.1, fun p hp =>
    k (.ref p) (.tup ds) n1 (upd Hs1 p (.tup vs)) _ (g1.trans (Gone.new g1.sub hp g1.pen)) ⟨p, vs, rfl, SqT.of upd_same, r1.mono (same_new g1.sub hp)⟩ h1.2⟩, kx⟩
theorem de_lst (h : PA X es (liftA X.K B tA)) : PE X (.List es pos) (lift X.K B (dLst tA)) := pe_imp (pe_lst h) fun σ H Q ⟨Hs, env, n, R, Rx, I, ht, k, kx⟩ =>
  ⟨Hs, env, n, _, Rx, I, ht, fun vs ds n1 Hs1 H1 g1 r1 h1 => ⟨by rw [← r1.length]; exact h1.1, fun p hp =>
    k (.ref p) (.lst ds) n1 (upd Hs1 p (.lst vs)) _ (g1.trans (Gone.new g1.sub hp g1.pen)) ⟨p, vs, rfl, upd_same, r1.mono (same_new g1.sub hp)⟩ h1.2⟩, kx⟩
theorem Gone.own {pn : Option Addr} {n : Nat} {Hs H : Hp} {p : Addr} {o : HO} (sub : Same Hs H) (hp : H p = none) (pen : ∀ q, pn = some q → PenOk Hs H q n) : Gone pn n Hs H Hs (upd H p o) := by
  have g : Grow pn.toList Hs H Hs (upd H p o) := Grow.newOwn hp
  refine ⟨g, fun a u e => ?_, fun q hq => ?_⟩
  · rw [upd_ne (ne_of_none (sub a u e) hp)]; exact sub a u e
  · refine (pen q hq).grow g (upd_ne ?_)
    rintro rfl
    obtain ⟨_, _, _, _, e', _⟩ := pen _ hq
    rw [hp] at e'; cases e'
theorem df_lst (h : PA X es (liftA X.K B tA)) : PE X (.List es pos) (liftF X.K B (fLst tA)) := pe_imp (pe_lst h) fun σ H Q ⟨Hs, env, n, R, Rx, I, ht, k, kx⟩ =>
  ⟨Hs, env, n, _, Rx, I, ht, fun vs ds n1 Hs1 H1 g1 r1 h1 => ⟨by rw [← r1.length]; exact h1.1, fun p hp =>
    k p vs ds n1 Hs1 _ (g1.trans (Gone.own g1.sub hp g1.pen)) (by
      cases e : H p with
      | none => rfl
      | some o => exact absurd hp (g1.gr.al p (by rw [e]; simp))) (g1.sub.free hp) upd_same r1 h1.2⟩, kx⟩
/-- a new list may be shared -/
theorem DF.shr {tf : DTA} (h : PE X e (liftF X.K B tf)) : PE X e (lift X.K B (fun env n R Rx => tf env n (fun ds n1 => R (.lst ds) n1) Rx)) := pe_imp h fun σ H Q ⟨Hs, env, n, R, Rx, I, ht, k, kx⟩ =>
  ⟨Hs, env, n, _, Rx, I, ht, fun a vs ds n1 Hs1 H1 g1 ha hs h' r1 h1 => by
    have ss : Same Hs1 (upd Hs1 a (.lst vs)) := fun b o e => by rw [upd_ne (ne_of_none e hs)]; exact e
    refine k (.ref a) (.lst ds) n1 (upd Hs1 a (.lst vs)) H1 ⟨⟨fun b o e => ss b o (g1.gr.sh b o e), g1.gr.ex, g1.gr.al, fun b hb hz => ?_, g1.gr.pc⟩, fun b o e => ?_, fun p hp => ?_⟩ ⟨a, vs, rfl, upd_same, r1.mono ss⟩ h1
    · rw [upd_ne (by rintro rfl; exact hb ha)]
      exact g1.gr.fr b hb hz
    · by_cases hb : b = a
      · subst hb; rw [upd_same] at e; cases e; exact h'
      · rw [upd_ne hb] at e; exact g1.sub b o e
    · obtain ⟨ca, ns, kk, l, h1, h2, h3, h4⟩ := g1.pen p hp
      refine ⟨ca, ns, kk, l, h1, ?_, ss _ _ h3, h4⟩
      rw [upd_ne (by rintro rfl; rw [h'] at h1; cases h1)]
      exact h2, kx⟩
end
end DL

namespace DL
open PySem L2

theorem DI.set {K : PySem.W.Frag} {B : Bs} {env : DEnv} {n : Nat} {σ : L2.St} {Hs H : Hp} {i : Nat} {d : D} {v : V} (I : DI K B env n σ Hs H) (r : Rep K Hs d v) : DI K B (env.set i (.sh d)) n (σ.set i (some v)) Hs H := by
  refine ⟨I.sub, I.pen, I.gr, by simp [I.len], fun j sl e => ?_, fun j k a sj sk ej ek oj ok => ?_⟩
  · by_cases h : i = j
    · subst h
      have hi : i < env.length := by
        have := (List.getElem?_eq_some_iff.mp e).1
        simpa using this
      rw [List.getElem?_set_self hi] at e
      cases e
      exact ⟨v, by rw [List.getElem?_set_self (by rw [← I.len]; exact hi)], r⟩
    · rw [List.getElem?_set_ne h] at e ⊢
      exact I.ok j sl e
  · by_cases h : i = j
    · subst h
      have hi : i < env.length := by
        have := (List.getElem?_eq_some_iff.mp ej).1
        simpa using this
      rw [List.getElem?_set_self hi] at ej
      cases ej
      simp [ownA] at oj
    · by_cases h' : i = k
      · subst h'
        have hi : i < env.length := by
          have := (List.getElem?_eq_some_iff.mp ek).1
          simpa using this
        rw [List.getElem?_set_self hi] at ek
        cases ek
        simp [ownA] at ok
      · rw [List.getElem?_set_ne h] at ej oj
        rw [List.getElem?_set_ne h'] at ek ok
        exact I.dis j k a sj sk ej ek oj ok

theorem reps1 {K : PySem.W.Frag} {H : Hp} {d : D} {vs : List V} (r : Reps K H [d] vs) : ∃ v, vs = [v] ∧ Rep K H d v := by
  obtain ⟨v, r', rfl, rv, e⟩ := r
  have e' : r' = [] := e
  subst e'
  exact ⟨v, rfl, rv⟩
theorem reps2 {K : PySem.W.Frag} {H : Hp} {d d' : D} {vs : List V} (r : Reps K H [d, d'] vs) : ∃ v v', vs = [v, v'] ∧ Rep K H d v ∧ Rep K H d' v' := by
  obtain ⟨v, r', rfl, rv, r2⟩ := r
  obtain ⟨v', rfl, rv'⟩ := reps1 r2
  exact ⟨v, v', rfl, rv, rv'⟩
def onTwo (P : D → D → Prop) : List D → Prop
  | [d, d'] => P d d'
  | _ => False
theorem onTwo_of {P : D → D → Prop} {ds : List D} (h : onTwo P ds) : ∃ d d', ds = [d, d'] ∧ P d d' := by
  unfold onTwo at h
  split at h
  · exact ⟨_, _, rfl, h⟩
  · exact h.elim
def onInt1 (P : Int → Prop) : List D → Prop
  | [.int j] => P j
  | _ => False
theorem onInt1_of {P : Int → Prop} {ds : List D} (h : onInt1 P ds) : ∃ j, ds = [.int j] ∧ P j := by
  unfold onInt1 at h
  split at h
  · exact ⟨_, rfl, h⟩
  · exact h.elim
def onInt2 (P : Int → Int → Prop) : List D → Prop
  | [.int i, .int j] => P i j
  | _ => False
theorem onInt2_of {P : Int → Int → Prop} {ds : List D} (h : onInt2 P ds) : ∃ i j, ds = [.int i, .int j] ∧ P i j := by
  unfold onInt2 at h
  split at h
  · exact ⟨_, _, rfl, h⟩
  · exact h.elim

section
variable {X : Cx} {B : Bs} {e a b c : Expr} {pos : Pos} {t ta tb : DT} {st : Stmt} {rest : List Stmt} {s u : DS} {tt : DTT}

/-! ### blocks -/
def dNext : DS := fun Dd env n => Dd.nx env n
def dSeq (s u : DS) : DS := fun Dd env n => s { Dd with nx := u Dd } env n
theorem dss_nil : PSs X [] (liftS X.K B dNext) := pss_imp pss_nil fun D σ H ⟨Hs, env, n, Dd, I, h, L⟩ => L.nx env n σ Hs H (Same.refl _) I h
theorem dss_cons (h1 : PS X st (liftS X.K B s)) (h2 : PSs X rest (liftS X.K B u)) : PSs X (st :: rest) (liftS X.K B (dSeq s u)) :=
  pss_imp (pss_cons h1 h2) fun D σ H ⟨Hs, env, n, Dd, I, h, L⟩ => ⟨Hs, env, n, _, I, h, ⟨fun env' n' σ' Hs' H' s' I' h' => ⟨Hs', env', n', Dd, I', h', L.on s'⟩, L.rt, L.bk, L.ct, L.ex⟩⟩
theorem dss_one (h1 : PS X st (liftS X.K B s)) : PSs X [st] (liftS X.K B s) := pss_one h1
theorem ds_pass : PS X (.Pass pos) (liftS X.K B dNext) := ps_imp ps_pass fun D σ H ⟨Hs, env, n, Dd, I, h, L⟩ => L.nx env n σ Hs H (Same.refl _) I h
def dBrk : DS := fun Dd env n => Dd.bk env n
def dCont : DS := fun Dd env n => Dd.ct env n
theorem ds_break : PS X (.Break pos) (liftS X.K B dBrk) := ps_imp ps_break fun D σ H ⟨Hs, env, n, Dd, I, h, L⟩ => L.bk env n σ Hs H (Same.refl _) I h
theorem ds_continue : PS X (.Continue pos) (liftS X.K B dCont) := ps_imp ps_continue fun D σ H ⟨Hs, env, n, Dd, I, h, L⟩ => L.ct env n σ Hs H (Same.refl _) I h
def dNever : DS := fun _ _ _ => False
theorem ds_never : PS X st (liftS X.K B dNever) := ps_imp ps_never fun D σ H ⟨Hs, env, n, Dd, I, h, L⟩ => h
theorem dss_never {sts : List Stmt} : PSs X sts (liftS X.K B dNever) := pss_imp pss_never fun D σ H ⟨Hs, env, n, Dd, I, h, L⟩ => h
def dExpr (t : DT) : DS := fun Dd env n => t env n (fun _ n1 => Dd.nx env n1) (fun x n1 => Dd.ex x env n1)
theorem ds_expr (h : PS X st (tDrop (lift X.K B t))) : PS X st (liftS X.K B (dExpr t)) := ps_imp h fun D σ H ⟨Hs, env, n, Dd, I, h, L⟩ =>
  ⟨Hs, env, n, _, _, I, h, fun v d n1 Hs1 H1 g r q => L.nx env n1 σ Hs1 H1 g.gr.sh (I.call g) q, L.cox I⟩
def dRet (t : DT) : DS := fun Dd env n => t env n Dd.rt (fun x n1 => Dd.ex x env n1)
theorem ds_ret (h : PE X e (lift X.K B t)) : PS X (.Return (some e) pos) (liftS X.K B (dRet t)) := ps_imp (ps_ret h) fun D σ H ⟨Hs, env, n, Dd, I, h, L⟩ =>
  ⟨Hs, env, n, _, _, I, h, fun v d n1 Hs1 H1 g r q => L.rt v d env n1 σ Hs1 H1 g.gr.sh (I.call g) r q, L.cox I⟩
def dRetN : DS := fun Dd env n => Dd.rt .non n
theorem ds_retN : PS X (.Return none pos) (liftS X.K B dRetN) := ps_imp ps_retN fun D σ H ⟨Hs, env, n, Dd, I, h, L⟩ => L.rt .non .non env n σ Hs H (Same.refl _) I rfl h
def dIfS (tt : DTT) (s u : DS) : DS := fun Dd env n => tt env n (fun k n1 => if k = true then s Dd env n1 else u Dd env n1) (fun x n1 => Dd.ex x env n1)
theorem ds_if {sa sb : List Stmt} (hc : PT X c (liftT X.K B tt)) (ha : PSs X sa (liftS X.K B s)) (hb : PSs X sb (liftS X.K B u)) : PS X (.If c sa sb pos) (liftS X.K B (dIfS tt s u)) :=
  ps_imp (ps_if hc ha hb) fun D σ H ⟨Hs, env, n, Dd, I, h, L⟩ => ⟨Hs, env, n, _, _, I, h, fun j n1 Hs1 H1 g q => by
    cases j with
    | true => exact ⟨Hs1, env, n1, Dd, I.call g, q, L.on g.gr.sh⟩
    | false => exact ⟨Hs1, env, n1, Dd, I.call g, q, L.on g.gr.sh⟩, L.cox I⟩

/-! ### targets -/
abbrev DG := D → DEnv → (DEnv → Prop) → Prop
abbrev DGs := List D → DEnv → (DEnv → Prop) → Prop
/-- ws: the slots that are stored to -/
def liftG (K : PySem.W.Frag) (B : Bs) (ws : List Nat) (g : DG) : TG := fun v σ H Q => ∃ Hs env n d R, DI K B env n σ Hs H ∧ Rep K Hs d v ∧ g d env R ∧ ∀ env' σ', DI K B env' n σ' Hs H → wipe σ' ws = wipe σ ws → R env' → Q σ' H
def liftGs (K : PySem.W.Frag) (B : Bs) (ws : List Nat) (g : DGs) : TGs := fun vs σ H Q => ∃ Hs env n ds R, DI K B env n σ Hs H ∧ Reps K Hs ds vs ∧ g ds env R ∧ ∀ env' σ', DI K B env' n σ' Hs H → wipe σ' ws = wipe σ ws → R env' → Q σ' H
theorem wipe_at {σ : L2.St} {j : Nat} : ∀ {ws : List Nat}, (wipe σ ws)[j]? = if j ∈ ws then (if j < σ.length then some none else none) else σ[j]?
  | [] => by simp [wipe]
  | v :: ws => by
    unfold wipe
    have ih := wipe_at (σ := σ) (j := j) (ws := ws)
    have hl := wipe_length σ ws
    by_cases h : v = j
    · subst h
      by_cases hv : v < σ.length
      · rw [List.getElem?_set_self (by rw [hl]; exact hv)]
        simp [hv]
      · rw [List.getElem?_eq_none (by rw [List.length_set, hl]; omega)]
        simp [hv]
    · rw [List.getElem?_set_ne h, ih]
      have : (j ∈ v :: ws) = (j ∈ ws) := by
        simp only [List.mem_cons, eq_iff_iff]
        exact ⟨fun z => z.elim (fun e => absurd e.symm h) id, Or.inr⟩
      simp only [this]
theorem wipe_set {σ : L2.St} {i : Nat} {o : Option V} {ws : List Nat} (h : i ∈ ws) : wipe (σ.set i o) ws = wipe σ ws := by
  apply List.ext_getElem?
  intro j
  rw [wipe_at, wipe_at, List.length_set]
  by_cases hj : j ∈ ws
  · simp [hj]
  · simp only [hj, if_false]
    rw [List.getElem?_set_ne (by rintro rfl; exact hj h)]
theorem pg_imp {tg : Expr} {g g' : TG} (h : PG X tg g) (i : ∀ v σ H Q, g' v σ H Q → g v σ H Q) : PG X tg g' := ⟨fun pins s σ H v u Q I r q => h.run pins s σ H v u Q I r (i v σ H Q q)⟩
theorem pgs_imp {tg : List Expr} {g g' : TGs} (h : PGs X tg g) (i : ∀ v σ H Q, g' v σ H Q → g v σ H Q) : PGs X tg g' := ⟨fun pins s σ H v u Q I r q => h.run pins s σ H v u Q I r (i v σ H Q q)⟩
def dgN (i : Nat) : DG := fun d env R => R (env.set i (.sh d))
theorem dg_name (i : Nat) {tg : Expr} {ws : List Nat} (hw : i ∈ ws) (h : PG X tg (gName i)) : PG X tg (liftG X.K B ws (dgN i)) := pg_imp h fun v σ H Q ⟨Hs, env, n, d, R, I, r, hg, k⟩ => k _ _ (I.set r) (wipe_set hw) hg
def dgNil : DGs := fun ds env R => match ds with
  | [] => R env
  | _ => False
def dgCons (g : DG) (gs : DGs) : DGs := fun ds env R => match ds with
  | d :: r => g d env fun env' => gs r env' R
  | [] => False
theorem dgs_nil {ws : List Nat} : PGs X [] (liftGs X.K B ws dgNil) := pgs_imp pgs_nil fun vs σ H Q ⟨Hs, env, n, ds, R, I, r, hg, k⟩ => by
  cases ds with
  | nil => cases r; exact ⟨rfl, k env σ I rfl hg⟩
  | cons d l => exact hg.elim
theorem dgs_cons {tg : Expr} {tgs : List Expr} {g : DG} {gs : DGs} {ws : List Nat} (h1 : PG X tg (liftG X.K B ws g)) (h2 : PGs X tgs (liftGs X.K B ws gs)) (hs : (assignEach (tg :: tgs) X.env).map (·.2) = assign tg X.env :: (assignEach tgs X.env).map (·.2) := by rfl) :
    PGs X (tg :: tgs) (liftGs X.K B ws (dgCons g gs)) := pgs_imp (pgs_cons h1 h2 hs) fun vs σ H Q ⟨Hs, env, n, ds, R, I, r, hg, k⟩ => by
  cases ds with
  | nil => exact hg.elim
  | cons d l =>
    obtain ⟨v, r', rfl, rv, rr⟩ := r
    exact ⟨v, r', rfl, Hs, env, n, d, _, I, rv, hg, fun env' σ' I' hw q => ⟨Hs, env', n, l, R, I', rr, q, fun env2 σ2 I2 hw2 q2 => k env2 σ2 I2 (hw2.trans hw) q2⟩⟩
def dgT (k : Nat) (gs : DGs) : DG := fun d env R => match d with
  | .tup l => l.length = k ∧ gs l env R
  | _ => False
theorem dg_tup {tg : Expr} {k : Nat} {gs : DGs} {ws : List Nat} (h : PG X tg (gTup X.K k (liftGs X.K B ws gs))) : PG X tg (liftG X.K B ws (dgT k gs)) := pg_imp h fun v σ H Q ⟨Hs, env, n, d, R, I, r, hg, kk⟩ => by
  cases d <;> first | exact False.elim hg | skip
  rename_i l
  obtain ⟨a, vs, rfl, h2, h3⟩ := r
  exact ⟨a, vs, rfl, same_t I.sub h2, by rw [← h3.length]; exact hg.1, Hs, env, n, l, R, I, h3, hg.2, kk⟩

/-! ### assignments -/
def dAsg (t : DT) (g : DG) : DS := fun Dd env n => t env n (fun d n1 => g d env fun env' => Dd.nx env' n1) (fun x n1 => Dd.ex x env n1)
theorem ds_asg {g : DG} {ws : List Nat} (h : PS X st (tAsg (lift X.K B t) (liftG X.K B ws g))) : PS X st (liftS X.K B (dAsg t g)) := ps_imp h fun D σ H ⟨Hs, env, n, Dd, I, h, L⟩ =>
  ⟨Hs, env, n, _, _, I, h, fun v d n1 Hs1 H1 gg r q => ⟨Hs1, env, n1, d, _, I.call gg, r, q, fun env' σ' I' _ q' => L.nx env' n1 σ' Hs1 H1 gg.gr.sh I' q'⟩, L.cox I⟩
def dSet (i : Nat) (t : DT) : DS := fun Dd env n => t env n (fun d n1 => Dd.nx (env.set i (.sh d)) n1) (fun x n1 => Dd.ex x env n1)
theorem ds_set (i : Nat) (h : PS X st (tAsg (lift X.K B t) (gName i))) : PS X st (liftS X.K B (dSet i t)) := ps_imp h fun D σ H ⟨Hs, env, n, Dd, I, h, L⟩ =>
  ⟨Hs, env, n, _, _, I, h, fun v d n1 Hs1 H1 g r q => L.nx _ n1 _ Hs1 H1 g.gr.sh ((I.call g).set r) q, L.cox I⟩
/-- a, b = x, y -/
def dPar (i j : Nat) (tA : DTA) : DS := fun Dd env n => tA env n (fun ds n1 => onTwo (fun d d' => Dd.nx ((env.set i (.sh d)).set j (.sh d')) n1) ds) (fun x n1 => Dd.ex x env n1)
theorem ds_par (i j : Nat) {tA : DTA} (h : PS X st (tPar i j (liftA X.K B tA))) : PS X st (liftS X.K B (dPar i j tA)) := ps_imp h fun D σ H ⟨Hs, env, n, Dd, I, h, L⟩ =>
  ⟨Hs, env, n, _, _, I, h, fun vs ds n1 Hs1 H1 g r q => by
    obtain ⟨d, d', rfl, q⟩ := onTwo_of q
    obtain ⟨v, v', rfl, r1, r2⟩ := reps2 r
    exact ⟨v, v', rfl, L.nx _ n1 _ Hs1 H1 g.gr.sh (((I.call g).set r1).set r2) q⟩, L.cox I⟩

/-! ### for -/
def forL (g : DG) (tb : DS) (Dd : DEnds) : List D → DEnv → Nat → Prop
  | [], env, n => Dd.nx env n
  | d :: l, env, n => g d env fun env' => tb { Dd with nx := forL g tb Dd l, ct := forL g tb Dd l, bk := Dd.nx } env' n
theorem for_lift {K : PySem.W.Frag} {ws : List Nat} {J : It} {l : List D} {vs : List V} {g : DG} {tb : DS} {Dd : DEnds} {D : Ends} {env : DEnv} {n : Nat} {σ : L2.St} {Hs H : Hp} (I : DI K B env n σ Hs H) (L : Link K B Hs Dd D) (hr : Reps K Hs l vs)
    (hstop : ∀ i Hs' H', Same Hs Hs' → Same Hs' H' → vs.length ≤ i → J.stop i H') (hgo : ∀ i Hs' H', Same Hs Hs' → Same Hs' H' → i < vs.length → J.go i H')
    (hy : ∀ i Hs' H' x H2, Same Hs Hs' → Same Hs' H' → i < vs.length → J.yld i H' x H2 → H2 = H' ∧ vs[i]? = some x) (h : forL g tb Dd l env n) :
    ∃ W : Nat → Nat → L2.St → Hp → Prop, (∃ m, W 0 m σ H) ∧ ∀ i m σ H, W i m σ H →
      (J.stop i H ∧ D.nx σ H) ∨ (J.go i H ∧ ∃ N : L2.St → Hp → Prop, (∀ σ' H', N σ' H' → ∃ m', m' < m ∧ W (i + 1) m' σ' H') ∧ ∀ x H', J.yld i H x H' → liftG K B ws g x σ H' fun σ2 H2 => liftS K B tb { D with nx := N, ct := N, bk := D.nx } σ2 H2) := by
  have hlen := hr.length
  refine ⟨fun i m σ H => m = vs.length - i ∧ i ≤ vs.length ∧ ∃ Hs1 env n, Same Hs Hs1 ∧ DI K B env n σ Hs1 H ∧ forL g tb Dd (l.drop i) env n, ⟨_, rfl, Nat.zero_le _, Hs, env, n, Same.refl _, I, h⟩, ?_⟩
  rintro i m σ1 H1 ⟨rfl, hi, Hs1, env1, n1, s1, I1, h1⟩
  by_cases hlt : i < vs.length
  · refine Or.inr ⟨hgo i Hs1 H1 s1 I1.sub hlt, fun σ' H' => ∃ Hs2 env n, Same Hs Hs2 ∧ DI K B env n σ' Hs2 H' ∧ forL g tb Dd (l.drop (i + 1)) env n, fun σ' H' ⟨Hs2, env, n, q⟩ => ⟨vs.length - (i + 1), by omega, rfl, hlt, Hs2, env, n, q⟩, fun x H' y => ?_⟩
    obtain ⟨e, yx⟩ := hy i Hs1 H1 x H' s1 I1.sub hlt y
    subst e
    obtain ⟨d, hd, rd⟩ := hr.getV yx
    have hdrop : l.drop i = d :: l.drop (i + 1) := by
      have hil := (List.getElem?_eq_some_iff.mp hd)
      obtain ⟨hil, e⟩ := hil
      rw [List.drop_eq_getElem_cons hil, e]
    rw [hdrop] at h1
    refine ⟨Hs1, env1, n1, d, _, I1, rd.mono s1, h1, fun env' σ' I' _ q => ⟨Hs1, env', n1, _, I', q, ⟨fun env2 n2 σ2 Hs2 H2 s2 I2 q2 => ⟨Hs2, env2, n2, s1.trans s2, I2, q2⟩, (L.on s1).rt, (L.on s1).nx, fun env2 n2 σ2 Hs2 H2 s2 I2 q2 => ⟨Hs2, env2, n2, s1.trans s2, I2, q2⟩, (L.on s1).ex⟩⟩⟩
  · have e : i = vs.length := by omega
    subst e
    refine Or.inl ⟨hstop _ Hs1 H1 s1 I1.sub (Nat.le_refl _), ?_⟩
    rw [← hlen, List.drop_length] at h1
    exact (L.on s1).nx env1 n1 σ1 Hs1 H1 (Same.refl _) I1 h1
def seqOf : D → Option (List D)
  | .lst l => some l
  | .tup l => some l
  | _ => none
def forOn (g : DG) (tb : DS) (Dd : DEnds) (env : DEnv) : DR := fun d n => match seqOf d with
  | some l => forL g tb Dd l env n
  | none => False
def dFor (t : DT) (g : DG) (tb : DS) : DS := fun Dd env n => t env n (forOn g tb Dd env) (fun x n1 => Dd.ex x env n1)
theorem pi_or {tg iter : Expr} {w1 w2 : TI} (h1 : PI X tg iter w1) (h2 : PI X tg iter w2) : PI X tg iter (fun σ H R => w1 σ H R ∨ w2 σ H R) :=
  ⟨fun pins s σ H R I h => h.elim (fun q => h1.run pins s σ H R I q) fun q => h2.run pins s σ H R I q⟩
def iSeq (K : PySem.W.Frag) (tl : TE) : TI := fun σ H R => tl σ H fun x H1 => ∃ a, x = .ref a ∧ ((∃ xs, SqL K H1 a xs) ∧ R (Itl K a) H1 ∨ (∃ xs, SqT K H1 a xs) ∧ R (Itt K a) H1)
theorem pi_seq {tg l : Expr} {tl : TE} (hl : PE X l tl) : PI X tg l (iSeq X.K tl) := by
  refine ⟨fun pins s σ H R I h => ?_⟩
  refine thn (hl.run pins s σ H _ I h) fun v s1 ⟨x, H1, I1, r1, q1⟩ => ?_
  obtain ⟨a, e, q⟩ := q1
  subst e
  cases r1
  rcases q with ⟨⟨xs, hq⟩, q⟩ | ⟨⟨xs, hq⟩, q⟩
  · obtain ⟨its, rv, p, hz⟩ := I1.list hq
    refine wpAny_pyIter_list p.isList ?_
    refine ⟨s1.heap.objs.size, [s1.heap.objs.size], _, _, H1, rfl, I1.kept (t' := s1.toks) fun b o e => Heap.get?_push_of_some _ e, turn_list a _, ⟨_, Heap.get?_push_size _ rfl, rfl, rfl⟩, fun b hb => ?_, q⟩
    have e : b = s1.heap.objs.size := by simpa using hb
    subst e
    exact I1.fpOk (Nat.le_refl _) (I1.hok.fresh (Nat.le_refl _))
  · obtain ⟨its, rv, p, hz⟩ := I1.tuple hq
    refine wpAny_pyIter_tuple (show s1.heap.IsTuple a its.toArray from p) ?_
    refine ⟨s1.heap.objs.size, [s1.heap.objs.size], _, _, H1, rfl, I1.kept (t' := s1.toks) fun b o e => Heap.get?_push_of_some _ e, turn_tuple a _, ⟨_, Heap.get?_push_size _ rfl, rfl, rfl⟩, fun b hb => ?_, q⟩
    have e : b = s1.heap.objs.size := by simpa using hb
    subst e
    exact I1.fpOk (Nat.le_refl _) (I1.hok.fresh (Nat.le_refl _))
theorem ds_for {g : DG} {tb : DS} {ws : List Nat} (h : PS X st (tFor (iSeq X.K (lift X.K B t)) (liftG X.K B ws g) (liftS X.K B tb))) : PS X st (liftS X.K B (dFor t g tb)) := ps_imp h fun D σ H ⟨Hs, env, n, Dd, I, h, L⟩ =>
  ⟨Hs, env, n, _, _, I, h, fun v d n1 Hs1 H1 gg r q => by
    unfold forOn at q
    cases d <;> first | exact False.elim q | skip
    · obtain ⟨a, vs, rfl, h2, h3⟩ := r
      refine ⟨a, rfl, Or.inr ⟨⟨vs, same_t gg.sub h2⟩, ?_⟩⟩
      refine for_lift (I.call gg) (L.on gg.gr.sh) h3 (fun i Hs' H' s s' hi => ⟨vs, same_t s' (same_t s h2), hi⟩) (fun i Hs' H' s s' hi => ⟨vs, vs[i], same_t s' (same_t s h2), by simp [hi]⟩) (fun i Hs' H' x H2 s s' _ y => ⟨y.1, y.2 vs (same_t s' (same_t s h2))⟩) q
    · obtain ⟨a, vs, rfl, h2, h3⟩ := r
      refine ⟨a, rfl, Or.inl ⟨⟨vs, SqL.of (gg.sub _ _ h2)⟩, ?_⟩⟩
      refine for_lift (I.call gg) (L.on gg.gr.sh) h3 (fun i Hs' H' s s' hi => ⟨vs, SqL.of (s' _ _ (s _ _ h2)), hi⟩) (fun i Hs' H' s s' hi => ⟨vs, vs[i], SqL.of (s' _ _ (s _ _ h2)), by simp [hi]⟩) (fun i Hs' H' x H2 s s' _ y => ⟨y.1, y.2 vs (SqL.of (s' _ _ (s _ _ h2)))⟩) q, L.cox I⟩
/-- for k in range(j) -/
def rngD (lo : Int) (m : Nat) : List D := (List.range m).map fun i => D.int (lo + (i : Nat))
def dForR (tA : DTA) (g : DG) (tb : DS) : DS := fun Dd env n => tA env n (fun ds n1 => onInt1 (fun j => (-(2 ^ 62) ≤ j ∧ j < 2 ^ 62) ∧ forL g tb Dd (rngD 0 j.toNat) env n1) ds) (fun x n1 => Dd.ex x env n1)
theorem reps_rng {K : PySem.W.Frag} {H : Hp} {lo : Int} {m : Nat} : Reps K H (rngD lo m) ((List.range m).map fun i => V.int (lo + (i : Nat))) := by
  have h : ∀ l : List Nat, Reps K H (l.map fun i => D.int (lo + (i : Nat))) (l.map fun i => V.int (lo + (i : Nat))) := fun l => by
    induction l with
    | nil => exact rfl
    | cons a l ih => exact ⟨_, _, rfl, rfl, ih⟩
  exact h _
theorem rng_lift {K : PySem.W.Frag} {ws : List Nat} {lo : Int} {m : Nat} {g : DG} {tb : DS} {Dd : DEnds} {D : Ends} {env : DEnv} {n : Nat} {σ : L2.St} {Hs H : Hp} (I : DI K B env n σ Hs H) (L : Link K B Hs Dd D) (h : forL g tb Dd (rngD lo m) env n) :
    ∃ W : Nat → Nat → L2.St → Hp → Prop, (∃ m, W 0 m σ H) ∧ ∀ i m' σ H, W i m' σ H →
      ((Itr lo m).stop i H ∧ D.nx σ H) ∨ ((Itr lo m).go i H ∧ ∃ N : L2.St → Hp → Prop, (∀ σ' H', N σ' H' → ∃ m2, m2 < m' ∧ W (i + 1) m2 σ' H') ∧ ∀ x H', (Itr lo m).yld i H x H' → liftG K B ws g x σ H' fun σ2 H2 => liftS K B tb { D with nx := N, ct := N, bk := D.nx } σ2 H2) := by
  refine for_lift (J := Itr lo m) I L reps_rng (fun i Hs' H' _ _ hi => ?_) (fun i Hs' H' _ _ hi => ?_) (fun i Hs' H' x H2 _ _ hi y => ?_) h
  · show m ≤ i
    simpa using hi
  · show i < m
    simpa using hi
  · obtain ⟨e, y⟩ := y
    refine ⟨e, ?_⟩
    have hm : i < m := by simpa using hi
    rw [y, List.getElem?_map, List.getElem?_range hm]
    rfl
theorem ds_forR {g : DG} {tb : DS} {ws : List Nat} {tA : DTA} (h : PS X st (tFor (iRng1 (liftA X.K B tA)) (liftG X.K B ws g) (liftS X.K B tb))) : PS X st (liftS X.K B (dForR tA g tb)) := ps_imp h fun D σ H ⟨Hs, env, n, Dd, I, h, L⟩ =>
  ⟨Hs, env, n, _, _, I, h, fun vs ds n1 Hs1 H1 gg r q => by
    obtain ⟨j, rfl, q⟩ := onInt1_of q
    obtain ⟨v, rfl, r1⟩ := reps1 r
    have r1' : v = .int j := r1
    subst r1'
    exact ⟨j, rfl, q.1.1, q.1.2, rng_lift (I.call gg) (L.on gg.gr.sh) q.2⟩, L.cox I⟩
/-- range(i, j) -/
def dForR2 (tA : DTA) (g : DG) (tb : DS) : DS := fun Dd env n => tA env n (fun ds n1 => onInt2 (fun i j => (-(2 ^ 62) ≤ i ∧ i < 2 ^ 62 ∧ -(2 ^ 62) ≤ j ∧ j < 2 ^ 62) ∧ forL g tb Dd (rngD i (j - i).toNat) env n1) ds) (fun x n1 => Dd.ex x env n1)
theorem ds_forR2 {g : DG} {tb : DS} {ws : List Nat} {tA : DTA} (h : PS X st (tFor (iRng2 (liftA X.K B tA)) (liftG X.K B ws g) (liftS X.K B tb))) : PS X st (liftS X.K B (dForR2 tA g tb)) := ps_imp h fun D σ H ⟨Hs, env, n, Dd, I, h, L⟩ =>
  ⟨Hs, env, n, _, _, I, h, fun vs ds n1 Hs1 H1 gg r q => by
    obtain ⟨i, j, rfl, q⟩ := onInt2_of q
    obtain ⟨v, v', rfl, r1, r2⟩ := reps2 r
    have r1' : v = .int i := r1
    have r2' : v' = .int j := r2
    subst r1' r2'
    exact ⟨i, j, rfl, q.1, rng_lift (I.call gg) (L.on gg.gr.sh) q.2⟩, L.cox I⟩
/-! ### while -/
def dWhile (tt : DTT) (tb : DS) : DS := fun Dd env n => ∃ W : Nat → DEnv → Nat → Prop, (∃ m, W m env n) ∧ ∀ m env n, W m env n →
  tt env n (fun k n1 => if k = true then tb { Dd with nx := fun env' n' => ∃ m', m' < m ∧ W m' env' n', ct := fun env' n' => ∃ m', m' < m ∧ W m' env' n', bk := Dd.nx } env n1 else Dd.nx env n1) (fun x n1 => Dd.ex x env n1)
theorem ds_while {tb : DS} (h : PS X st (tWhile (liftT X.K B tt) (liftS X.K B tb))) : PS X st (liftS X.K B (dWhile tt tb)) := ps_imp h fun D σ H ⟨Hs, env, n, Dd, I, ⟨W, ⟨m0, w0⟩, turn⟩, L⟩ => by
  refine ⟨fun m σ H => ∃ Hs1 env n, Same Hs Hs1 ∧ DI X.K B env n σ Hs1 H ∧ W m env n, ⟨m0, Hs, env, n, Same.refl _, I, w0⟩, ?_⟩
  rintro m σ1 H1 ⟨Hs1, env1, n1, s1, I1, w1⟩
  refine ⟨Hs1, env1, n1, _, _, I1, turn m env1 n1 w1, fun j n2 Hs2 H2 g q => ?_, (L.on s1).cox I1⟩
  cases j with
  | true =>
    refine ⟨fun σ' H' => ∃ m', m' < m ∧ ∃ Hs3 env n, Same Hs Hs3 ∧ DI X.K B env n σ' Hs3 H' ∧ W m' env n, fun σ' H' q => q, Hs2, env1, n2, _, I1.call g, q, ?_⟩
    have s2 := s1.trans g.gr.sh
    exact ⟨fun env' n' σ' Hs' H' s' I' ⟨m', hm, w'⟩ => ⟨m', hm, Hs', env', n', s2.trans s', I', w'⟩, (L.on s2).rt, (L.on s2).nx, fun env' n' σ' Hs' H' s' I' ⟨m', hm, w'⟩ => ⟨m', hm, Hs', env', n', s2.trans s', I', w'⟩, (L.on s2).ex⟩
  | false => exact (L.on (s1.trans g.gr.sh)).nx env1 n2 σ1 Hs2 H2 (Same.refl _) (I1.call g) q
end
end DL

namespace DL
open PySem L2

abbrev DSp := List D → Nat → DR → DXR → Prop
def noX : DXR := fun _ _ => False
/-- a def's promise over plain data -/
def liftSp (K : PySem.W.Frag) (pn : Option Addr) (sp : DSp) : Sp := fun vs H Q E => ∃ Hs n ds R Rx, Same Hs H ∧ (∀ p, pn = some p → PenOk Hs H p n) ∧ Reps K Hs ds vs ∧ sp ds n R Rx ∧
  (∀ v d n' Hs' H', Gone pn n' Hs H Hs' H' → Rep K Hs' d v → R d n' → Q v H') ∧ (∀ x cls d n' Hs' H', Gone pn n' Hs H Hs' H' → XRep K Hs' H' x cls d → Rx x n' → E cls d H')
/-- a global def that keeps its promise -/
structure Fn (P : Program) (w : World) (K : PySem.W.Frag) (mg : Str → Option Value) (base : Heap) (CX : CXT) (pn : Option Addr) (k : Nat) (x : Str) (ps : List Str) (sp : DSp) : Prop where
  ex : ∃ f fd, FnOk P w K mg base CX k f fd ps (liftSp K pn sp) ∧ mg x = some (.ref f) ∧ PySem.W.keepIn K (.ref f) = true ∧ Binds K fd ps []
/-- a method of the class at C -/
structure Me (P : Program) (w : World) (K : PySem.W.Frag) (mg : Str → Option Value) (base : Heap) (CX : CXT) (pn : Option Addr) (k : Nat) (C : Addr) (m : Str) (ps : List Str) (sp : DSp) : Prop where
  cl : Cls K C
  ex : ∃ f fd, FnOk P w K mg base CX k f fd ps (liftSp K pn sp) ∧ Meth K C m f ∧ Binds K fd ps []
abbrev DSpI := List D → Nat → (List Str → List D → Nat → Prop) → DXR → Prop
/-- an __init__'s promise: the fields that it stores -/
def liftI (K : PySem.W.Frag) (pn : Option Addr) (C : Addr) (sp : DSpI) : Sp := fun vs H Q E => ∃ x dx more Hs n ds R Rx, vs = .ref x :: more ∧ H x = some (.ins C dx []) ∧ Hs x = none ∧ Same Hs H ∧ (∀ p, pn = some p → PenOk Hs H p n) ∧ Reps K Hs ds more ∧ sp ds n R Rx ∧
  (∀ n' Hs' H' ns fds fvs dx, Grow (x :: pn.toList) Hs H Hs' H' → Same Hs' H' → (∀ p, pn = some p → PenOk Hs' H' p n') → H' x = some (.ins C dx (ns.zip fvs)) → Hs' x = none → ns.length = fvs.length → Reps K Hs' fds fvs → R ns fds n' → Q .non H') ∧
  (∀ e cls d n' Hs' H', Grow (x :: pn.toList) Hs H Hs' H' → Same Hs' H' → (∀ p, pn = some p → PenOk Hs' H' p n') → XRep K Hs' H' e cls d → Rx e n' → E cls d H')
structure Mkc (P : Program) (w : World) (K : PySem.W.Frag) (mg : Str → Option Value) (base : Heap) (CX : CXT) (pn : Option Addr) (k : Nat) (x : Str) (C : Addr) (ps : List Str) (sp : DSpI) : Prop where
  ex : ∃ f fd, Mk K C f ∧ FnOk P w K mg base CX k f fd ps (liftI K pn C sp) ∧ mg x = some (.ref C) ∧ Binds K fd ps []

section
variable {X : Cx} {B : Bs} {e a b c : Expr} {es : List Expr} {pos p apos : Pos} {t ta tb : DT} {tA : DTA} {sp : DSp} {k : Nat} {x : Str} {ps : List Str}

/-! ### calls -/
def dCall (sp : DSp) (tA : DTA) : DT := fun env n R Rx => tA env n (fun ds n1 => sp ds n1 R noX) Rx
theorem call_lift {σ : L2.St} {H : Hp} {Q : VK} (h : lift X.K B (dCall sp tA) σ H Q) : tCall (liftSp X.K B.pn sp) [] E0 (liftA X.K B tA) σ H Q := by
  obtain ⟨Hs, env, n, R, Rx, I, ht, kk, kx⟩ := h
  refine ⟨Hs, env, n, _, Rx, I, ht, fun vs ds n1 Hs1 H1 g r q => ?_, kx⟩
  refine ⟨Hs1, n1, ds, R, noX, g.sub, g.pen, by rw [List.append_nil]; exact r, q, fun v d n' Hs' H' g' r' q' => kk v d n' Hs' H' (g.trans g') r' q', fun _ _ _ _ _ _ _ _ z => z.elim⟩
theorem de_call (G : Fn X.prog X.w X.K X.mg X.base CX0 B.pn k x ps sp) (hr : Room k X.A) (hg : Gl X x) (ha : PA X (e :: es) (liftA X.K B tA)) (hdb : (x == ("__debug__" : Str)) = false := by decide)
    (he : starEach (e :: es) X.env = (false, eval e X.env) :: starEach es X.env := by rfl) (hpl : (backTo pos (starEach es X.env)).any (·.1) = false := by rfl) : PE X (.Call (.Name x p) (e :: es) [] pos) (lift X.K B (dCall sp tA)) := by
  obtain ⟨f, fd, F, hm, hk, hb⟩ := G.ex
  exact pe_imp (pe_call F hr hg hm hk hb .nil pass0 ha hdb he hpl) fun σ H Q h => call_lift h
theorem de_call0 (G : Fn X.prog X.w X.K X.mg X.base CX0 B.pn k x ps sp) (hr : Room k X.A) (hg : Gl X x) (hdb : (x == ("__debug__" : Str)) = false := by decide) : PE X (.Call (.Name x p) [] [] pos) (lift X.K B (dCall sp aNil)) := by
  obtain ⟨f, fd, F, hm, hk, hb⟩ := G.ex
  refine pe_imp (pe_call0 F hr hg hm hk hb .nil pass0 hdb) fun σ H Q h => ?_
  obtain ⟨Hs, env, n, R, Rx, I, ht, kk, kx⟩ := h
  exact ⟨Hs, n, [], R, noX, I.sub, I.pn, rfl, ht, fun v d n' Hs' H' g' r' q' => kk v d n' Hs' H' g' r' q', fun _ _ _ _ _ _ _ _ z => z.elim⟩

/-! ### fields -/
def Fld (K : PySem.W.Frag) (c : Addr) (f : Str) : Prop := Cls K c ∧ NoAttr K c f
def lookD (f : Str) : List Str → List D → Option D
  | x :: ns, d :: ds => if f = x then some d else lookD f ns ds
  | _, _ => none
theorem lookD_rep {K : PySem.W.Frag} {H : Hp} {f : Str} : ∀ {ns : List Str} {ds : List D} {vs : List V} {d : D}, Reps K H ds vs → lookD f ns ds = some d → ∃ v, (ns.zip vs).lookup f = some v ∧ Rep K H d v
  | [], _, _, _, _, e => by simp [lookD] at e
  | x :: ns, [], _, _, _, e => by simp [lookD] at e
  | x :: ns, d0 :: ds, vs, d, r, e => by
    obtain ⟨v, r', rfl, rv, rr⟩ := r
    simp only [lookD] at e
    by_cases h : f = x
    · rw [if_pos h] at e
      cases e
      exact ⟨v, by simp [List.zip_cons_cons, List.lookup, h], rv⟩
    · rw [if_neg h] at e
      obtain ⟨v', h1, h2⟩ := lookD_rep rr e
      refine ⟨v', ?_, h2⟩
      have hb : (f == x) = false := beq_eq_false_iff_ne.mpr h
      simp only [List.zip_cons_cons, List.lookup, hb]
      exact h1
theorem lookD_none {f : Str} : ∀ {ns : List Str} {vs : List V}, ¬ f ∈ ns → (ns.zip vs).lookup f = none
  | [], _, _ => rfl
  | x :: ns, [], _ => rfl
  | x :: ns, v :: vs, h => by
    have hb : (f == x) = false := beq_eq_false_iff_ne.mpr (fun z => h (by rw [z]; exact List.mem_cons_self))
    simp only [List.zip_cons_cons, List.lookup, hb]
    exact lookD_none (fun z => h (List.mem_cons_of_mem _ z))
def someOf (R : DR) (n : Nat) : Option D → Prop
  | some d => R d n
  | none => False
def fldOf (K : PySem.W.Frag) (f : Str) (R : DR) : DR := fun d n => match d with
  | .obj c ns ds => Fld K c f ∧ someOf R n (lookD f ns ds)
  | _ => False
def dFld (K : PySem.W.Frag) (f : Str) (t : DT) : DT := fun env n R Rx => t env n (fldOf K f R) Rx
theorem de_fld {f : Str} (h : PE X e (tFld X.K (lift X.K B t) f)) : PE X e (lift X.K B (dFld X.K f t)) := pe_imp h fun σ H Q ⟨Hs, env, n, R, Rx, I, ht, kk, kx⟩ =>
  ⟨Hs, env, n, _, Rx, I, ht, fun v d n1 Hs1 H1 g r q => by
    cases d <;> first | exact False.elim q | skip
    rename_i c ns ds
    obtain ⟨hF, q⟩ := q
    obtain ⟨a, dx, vs, rfl, h2, h3, h4⟩ := r
    cases hl : lookD f ns ds with
    | none => rw [hl] at q; exact q.elim
    | some d =>
      rw [hl] at q
      obtain ⟨v, hv, rv⟩ := lookD_rep h4 hl
      exact ⟨a, c, dx, _, v, rfl, g.sub _ _ h2, hF.1, hF.2, hv, kk v d n1 Hs1 H1 g rv q⟩, kx⟩

/-! ### own methods -/
def clsIs (C : Addr) : D → Prop
  | .obj c _ _ => c = C
  | _ => False
theorem clsIs_of {K : PySem.W.Frag} {H : Hp} {C : Addr} {d : D} {v : V} (h : clsIs C d) (r : Rep K H d v) : ∃ a dx ns vs ds, v = .ref a ∧ H a = some (.ins C dx (ns.zip vs)) ∧ d = .obj C ns ds := by
  cases d <;> first | exact False.elim h | skip
  rename_i c ns ds
  have h' : c = C := h
  subst h'
  obtain ⟨a, dx, vs, rfl, h2, _, _⟩ := r
  exact ⟨a, dx, ns, vs, ds, rfl, h2, rfl⟩
def hasNot (m : Str) : D → Prop
  | .obj _ ns _ => ¬ m ∈ ns
  | _ => False
/-- o.m(..) -/
def dMeth (C : Addr) (m : Str) (sp : DSp) (t : DT) (tA : DTA) : DT := fun env n R Rx => t env n (fun o n1 => (clsIs C o ∧ hasNot m o) ∧ tA env n1 (fun ds n2 => sp (o :: ds) n2 R noX) Rx) Rx
theorem meth_lift {C : Addr} {m : Str} {σ : L2.St} {H : Hp} {Q : VK} (h : lift X.K B (dMeth C m sp t tA) σ H Q) : tMeth C m (liftSp X.K B.pn sp) [] E0 (lift X.K B t) (liftA X.K B tA) σ H Q := by
  obtain ⟨Hs, env, n, R, Rx, I, ht, kk, kx⟩ := h
  refine ⟨Hs, env, n, _, Rx, I, ht, fun v o n1 Hs1 H1 g r q => ?_, kx⟩
  obtain ⟨⟨q1, q2⟩, q3⟩ := q
  obtain ⟨a, dx, ns, vs, ds, rfl, h2, rfl⟩ := clsIs_of q1 r
  refine ⟨a, dx, _, rfl, g.sub _ _ h2, lookD_none q2, ?_⟩
  refine ⟨Hs1, env, n1, _, Rx, I.call g, q3, fun ws es n2 Hs2 H2 g2 r2 q4 => ?_, kx.on g⟩
  exact ⟨Hs2, n2, _, R, noX, g2.sub, g2.pen, by rw [List.append_nil]; exact ⟨_, _, rfl, r.mono g2.gr.sh, r2⟩, q4, fun v d n' Hs' H' g' r' q' => kk v d n' Hs' H' ((g.trans g2).trans g') r' q', fun _ _ _ _ _ _ _ _ z => z.elim⟩
theorem de_meth {o : Expr} {C : Addr} {m : Str} {pl : Sem Bool} (G : Me X.prog X.w X.K X.mg X.base CX0 B.pn k C m ps sp) (hr : Room k X.A) (ho : PE X o (lift X.K B t)) (ha : PA X (e :: es) (liftA X.K B tA))
    (hst : starEach (e :: es) X.env = (false, eval e X.env) :: starEach es X.env := by rfl) (hpl : (backTo pos (starEach es X.env)).any (·.1) = false := by rfl)
    (ht : eval (.Call (.Attribute o m apos) (e :: es) [] pos) X.env = (do
      let ov ← eval o X.env
      standAt apos.atName
      let (f, first) ← holding [ov] (getMethod ov m pl)
      callWith pos f first (backTo pos (starEach (e :: es) X.env)) (backToKw pos (keywordEach [] X.env))) := by rfl) : PE X (.Call (.Attribute o m apos) (e :: es) [] pos) (lift X.K B (dMeth C m sp t tA)) := by
  obtain ⟨f, fd, F, hm, hb⟩ := G.ex
  exact pe_imp (pe_meth ho G.cl hm F hr hb .nil pass0 ha hst hpl ht) fun σ H Q h => meth_lift h
theorem de_meth0 {o : Expr} {C : Addr} {m : Str} {pl : Sem Bool} (G : Me X.prog X.w X.K X.mg X.base CX0 B.pn k C m ps sp) (hr : Room k X.A) (ho : PE X o (lift X.K B t))
    (ht : eval (.Call (.Attribute o m apos) [] [] pos) X.env = (do
      let ov ← eval o X.env
      standAt apos.atName
      let (f, first) ← holding [ov] (getMethod ov m pl)
      callWith pos f first (backTo pos (starEach [] X.env)) (backToKw pos (keywordEach [] X.env))) := by rfl) : PE X (.Call (.Attribute o m apos) [] [] pos) (lift X.K B (dMeth C m sp t aNil)) := by
  obtain ⟨f, fd, F, hm, hb⟩ := G.ex
  refine pe_imp (pe_meth0 ho G.cl hm F hr hb .nil pass0 ht) fun σ H Q h => ?_
  obtain ⟨Hs, env, n, R, Rx, I, ht, kk, kx⟩ := h
  refine ⟨Hs, env, n, _, Rx, I, ht, fun v o n1 Hs1 H1 g r q => ?_, kx⟩
  obtain ⟨⟨q1, q2⟩, q3⟩ := q
  obtain ⟨a, dx, ns, vs, ds, rfl, h2, rfl⟩ := clsIs_of q1 r
  refine ⟨a, dx, _, rfl, g.sub _ _ h2, lookD_none q2, ?_⟩
  exact ⟨Hs1, n1, [_], R, noX, g.sub, g.pen, Reps.cons r Reps.nil, q3, fun v d n' Hs' H' g' r' q' => kk v d n' Hs' H' (g.trans g') r' q', fun _ _ _ _ _ _ _ _ z => z.elim⟩

/-! ### own operators -/
theorem notImpl {x : V} {u : Value} (r : RelV x u) : u ≠ .notImplemented := by
  intro z
  subst z
  cases x with
  | int _ => obtain ⟨_, h⟩ := r; cases h
  | str _ => obtain ⟨_, h⟩ := r; cases h
  | byt _ => obtain ⟨_, h⟩ := r; cases h
  | flt _ => obtain ⟨_, h⟩ := r; cases h
  | _ => cases r
theorem cmpBack {pins : List (Addr × Obj)} {σ : L2.St} {Q : VK} {u : Value} {s : Shared} (h : EP X pins σ Q u s) : PySem.W.CmpBack (EP X pins σ Q) u s := by
  obtain ⟨v, H', I, r, q⟩ := id h
  unfold PySem.W.CmpBack
  have := notImpl r
  split
  · exact (this rfl).elim
  · exact h
/-- both of the class C -/
theorem op_own {C f : Addr} {fd : FuncData} {op : Operator} {spv : Sp} (hc : PySem.W.selfFirst X.K C = true) (hs : PySem.W.findIn X.K (.ref C) (PySem.dunder op.info.2) = some (some (.ref f))) (hf : PySem.W.isFn X.K (.ref f) = true)
    (F : FnOk X.prog X.w X.K X.mg X.base CX0 k f fd ps spv) (hr : Room k X.A) (hb : Binds X.K fd ps []) :
    OpR X (binaryOp op) (fun x y H Q => ∃ a b dx fs dy gs, x = .ref a ∧ y = .ref b ∧ H a = some (.ins C dx fs) ∧ H b = some (.ins C dy gs) ∧ spv [x, y] H Q E0) := by
  intro pins s σ H x y v u Q I rx ry h
  obtain ⟨a, b, dx, fs, dy, gs, rfl, rfl, ha, hb', q⟩ := h
  cases rx
  cases ry
  obtain ⟨mA, O, _⟩ := ins_get I.hok ha
  obtain ⟨od, J, _⟩ := O.look
  obtain ⟨mB, O', _⟩ := ins_get I.hok hb'
  obtain ⟨od', J', _⟩ := O'.look
  obtain ⟨m, Fr⟩ := I.fr
  refine PySem.W.binop_K Fr I.mod.kin J J'.type hc hs hf ?_
  exact thn (run_fn (us := [.ref a, .ref b]) (vs := [.ref a, .ref b]) (dvs := []) F hr hb .nil pass0 I (.cons rfl (.cons rfl .nil)) q) fun r s' h' => cmpBack h'
/-- the other of a built-in type -/
theorem op_ownT {C f : Addr} {fd : FuncData} {op : Operator} {spv : Sp} {T : String} {rc fo ro : Option Value} (hc : PySem.W.selfFirst X.K C = true) (hs : PySem.W.findIn X.K (.ref C) (PySem.dunder op.info.2) = some (some (.ref f))) (hf : PySem.W.isFn X.K (.ref f) = true)
    (hrr : PySem.W.findIn X.K (.ref C) (dunderR op.info.2) = some rc) (hp : rc = none ∨ ∃ g : Addr, rc = some (.ref g)) (h1 : PySem.W.findIn X.K (.type T) (PySem.dunder op.info.2) = some fo) (h2 : PySem.W.findIn X.K (.type T) (dunderR op.info.2) = some ro)
    (hsub : PySem.W.subIn X.K (.type T) (.ref C) = some false) (F : FnOk X.prog X.w X.K X.mg X.base CX0 k f fd ps spv) (hr : Room k X.A) (hb : Binds X.K fd ps []) (V1 : V → Prop) (hV : ∀ y u, V1 y → RelV y u → typeOf u = pure (.type T)) :
    OpR X (binaryOp op) (fun x y H Q => ∃ a dx fs, x = .ref a ∧ V1 y ∧ H a = some (.ins C dx fs) ∧ spv [x, y] H Q E0) := by
  intro pins s σ H x y v u Q I rx ry h
  obtain ⟨a, dx, fs, rfl, hy, ha, q⟩ := h
  cases rx
  obtain ⟨mA, O, _⟩ := ins_get I.hok ha
  obtain ⟨od, J, _⟩ := O.look
  obtain ⟨m, Fr⟩ := I.fr
  refine PySem.W.ksp_binT Fr I.mod.kin J (hV y u hy ry) hc hs hf hrr hp h1 h2 hsub ?_
  exact thn (run_fn (us := [.ref a, u]) (vs := [.ref a, y]) (dvs := []) F hr hb .nil pass0 I (.cons rfl (.cons ry .nil)) q) fun r s' h' => cmpBack h'
/-- -o -/
theorem un_own {C f : Addr} {fd : FuncData} {spv : Sp} (hs : PySem.W.findIn X.K (.ref C) "__neg__" = some (some (.ref f))) (hf : PySem.W.isFn X.K (.ref f) = true)
    (F : FnOk X.prog X.w X.K X.mg X.base CX0 k f fd ps spv) (hr : Room k X.A) (hb : Binds X.K fd ps []) :
    UnR X (unaryOp .USub) (fun x H Q => ∃ a dx fs, x = .ref a ∧ H a = some (.ins C dx fs) ∧ spv [x] H Q E0) := by
  intro pins s σ H x v Q I rx h
  obtain ⟨a, dx, fs, rfl, ha, q⟩ := h
  cases rx
  obtain ⟨mA, O, _⟩ := ins_get I.hok ha
  obtain ⟨od, J, _⟩ := O.look
  obtain ⟨m, Fr⟩ := I.fr
  exact PySem.W.ksp_neg Fr I.mod.kin J hs hf (run_fn (us := [.ref a]) (vs := [.ref a]) (dvs := []) F hr hb .nil pass0 I (.cons rfl .nil) q)
/-- what of a class its operators want -/
structure OpC (K : PySem.W.Frag) (C : Addr) (op : Operator) : Prop where
  sf : PySem.W.selfFirst K C = true
  rc : ∃ rc, PySem.W.findIn K (.ref C) (dunderR op.info.2) = some rc ∧ (rc = none ∨ ∃ g : Addr, rc = some (.ref g))
  it : ∃ fo ro, PySem.W.findIn K (.type "int") (PySem.dunder op.info.2) = some fo ∧ PySem.W.findIn K (.type "int") (dunderR op.info.2) = some ro
  sub : PySem.W.subIn K (.type "int") (.ref C) = some false
def isIntD : D → Prop
  | .int _ => True
  | _ => False
/-- one op other by the class's own def: the other of the class too, or an int -/
def dOpO (C : Addr) (sp : DSp) (ta tb : DT) : DT := fun env n R Rx => ta env n (fun x n1 => tb env n1 (fun y n2 => clsIs C x ∧ (clsIs C y ∨ isIntD y) ∧ sp [x, y] n2 R noX) Rx) Rx
theorem OpR.orD {f : Value → Value → Sem Value} {r r' : R2} (h : OpR X f r) (h' : OpR X f r') : OpR X f (fun x y H Q => r x y H Q ∨ r' x y H Q) := OpR.or h h'
theorem de_opO {op : Operator} {C : Addr} {m : Str} (O : OpC X.K C op) (G : Me X.prog X.w X.K X.mg X.base CX0 B.pn k C m ps sp) (hm : PySem.dunder op.info.2 = m) (hr : Room k X.A) (ha : PE X a (lift X.K B ta)) (hb : PE X b (lift X.K B tb)) :
    PE X (.BinOp a op b pos) (lift X.K B (dOpO C sp ta tb)) := by
  subst hm
  obtain ⟨f, fd, F, hm, hbd⟩ := G.ex
  obtain ⟨rc, hrr, hp⟩ := O.rc
  obtain ⟨fo, ro, h1, h2⟩ := O.it
  have o1 := op_own (op := op) O.sf hm.at_ hm.fn F hr hbd
  have o2 := op_ownT (op := op) O.sf hm.at_ hm.fn hrr hp h1 h2 O.sub F hr hbd (fun y => ∃ i, y = .int i) (fun y u ⟨i, e⟩ r => by subst e; obtain ⟨t, rfl⟩ := r; rfl)
  refine pe_imp (pe_op (OpR.or o1 o2) ha hb) fun σ H Q ⟨Hs, env, n, R, Rx, I, ht, kk, kx⟩ => ?_
  refine ⟨Hs, env, n, _, Rx, I, ht, fun v o n1 Hs1 H1 g r q => ?_, kx⟩
  refine ⟨Hs1, env, n1, _, Rx, I.call g, q, fun v2 o2 n2 Hs2 H2 g2 r2 q2 => ?_, kx.on g⟩
  obtain ⟨c1, c2, q3⟩ := q2
  have go : liftSp X.K B.pn sp [v, v2] H2 Q E0 := ⟨Hs2, n2, [o, o2], R, noX, g2.sub, g2.pen, ⟨_, _, rfl, r.mono g2.gr.sh, _, _, rfl, r2, rfl⟩, q3, fun v d n' Hs' H' g' r' q' => kk v d n' Hs' H' ((g.trans g2).trans g') r' q', fun _ _ _ _ _ _ _ _ z => z.elim⟩
  obtain ⟨a1, dx, ns, vs, ds, rfl, e1, rfl⟩ := clsIs_of c1 r
  rcases c2 with c2 | c2
  · obtain ⟨a2, dy, ns', vs', ds', rfl, e2, rfl⟩ := clsIs_of c2 r2
    exact Or.inl ⟨a1, a2, dx, _, dy, _, rfl, rfl, g2.sub _ _ (g2.gr.sh _ _ e1), g2.sub _ _ e2, go⟩
  · cases o2 <;> first | exact False.elim c2 | skip
    exact Or.inr ⟨a1, dx, _, rfl, ⟨_, r2⟩, g2.sub _ _ (g2.gr.sh _ _ e1), go⟩
def dUnO (C : Addr) (sp : DSp) (ta : DT) : DT := fun env n R Rx => ta env n (fun x n1 => clsIs C x ∧ sp [x] n1 R noX) Rx
theorem de_negO {C : Addr} (G : Me X.prog X.w X.K X.mg X.base CX0 B.pn k C "__neg__" ps sp) (hr : Room k X.A) (ha : PE X a (lift X.K B ta)) : PE X (.UnaryOp .USub a pos) (lift X.K B (dUnO C sp ta)) := by
  obtain ⟨f, fd, F, hm, hbd⟩ := G.ex
  refine pe_imp (pe_un (un_own hm.at_ hm.fn F hr hbd) ha) fun σ H Q ⟨Hs, env, n, R, Rx, I, ht, kk, kx⟩ => ?_
  refine ⟨Hs, env, n, _, Rx, I, ht, fun v o n1 Hs1 H1 g r q => ?_, kx⟩
  obtain ⟨c1, q3⟩ := q
  obtain ⟨a1, dx, ns, vs, ds, rfl, e1, rfl⟩ := clsIs_of c1 r
  exact ⟨a1, dx, _, rfl, g.sub _ _ e1, Hs1, n1, [_], R, noX, g.sub, g.pen, ⟨_, _, rfl, r, rfl⟩, q3, fun v d n' Hs' H' g' r' q' => kk v d n' Hs' H' (g.trans g') r' q', fun _ _ _ _ _ _ _ _ z => z.elim⟩

/-! ### a new instance -/
def dMake (C : Addr) (sp : DSpI) (tA : DTA) : DT := fun env n R Rx => tA env n (fun ds n1 => sp ds n1 (fun ns fds n2 => R (.obj C ns fds) n2) noX) Rx
theorem make_lift {C : Addr} {sp : DSpI} {σ : L2.St} {H : Hp} {Q : VK} (h : lift X.K B (dMake C sp tA) σ H Q) : tMake C (liftI X.K B.pn C sp) [] E0 (liftA X.K B tA) σ H Q := by
  obtain ⟨Hs, env, n, R, Rx, I, ht, kk, kx⟩ := h
  refine ⟨Hs, env, n, _, Rx, I, ht, fun vs ds n1 Hs1 H1 g r q => ?_, kx⟩
  intro x dx hx hdx hne
  have hsx : Hs1 x = none := g.sub.free hx
  have same1 : Same H1 (upd (upd H1 dx (.own x)) x (.ins C dx [])) := fun b o e => by rw [upd_ne (ne_of_none e hx), upd_ne (ne_of_none e hdx)]; exact e
  have sub1 : Same Hs1 (upd (upd H1 dx (.own x)) x (.ins C dx [])) := g.sub.trans same1
  refine ⟨x, dx, _, Hs1, n1, ds, _, noX, rfl, upd_same, hsx, sub1, fun p hp => ?_, by rw [List.append_nil]; exact r, q, fun n' Hs' H' ns fds fvs dx g' sub' pen' hx' hsx' hl rf q' => ⟨rfl, ?_⟩, fun _ _ _ _ _ _ _ _ _ _ z => z.elim⟩
  · obtain ⟨ca, ms, kk', l, e1, e2, e3, e4⟩ := g.pen p hp
    exact ⟨ca, ms, kk', l, same1 _ _ e1, e2, e3, e4⟩
  · have ss : Same Hs' (upd Hs' x (.ins C dx (ns.zip fvs))) := fun b o e => by rw [upd_ne (ne_of_none e hsx')]; exact e
    refine kk (.ref x) (.obj C ns fds) n' (upd Hs' x (.ins C dx (ns.zip fvs))) H' (g.trans ⟨⟨g'.sh.trans ss, fun b o hb e => ?_, fun b hb => ?_, fun b hb hz => ?_, fun q ca r e => g'.pc q ca r (same1 _ _ e)⟩, fun b o e => ?_, fun p hp => ?_⟩) ⟨x, dx, fvs, rfl, upd_same, hl, rf.mono ss⟩ q'
    · exact g'.ex b o (by
        intro hm
        rcases List.mem_cons.mp hm with z | z
        · subst z; rw [hx] at e; cases e
        · exact hb z) (same1 b o e)
    · exact g'.al b (by
        cases e : H1 b with
        | none => exact absurd e hb
        | some o => rw [same1 b o e]; simp)
    · have hbx : b ≠ x := by rintro rfl; exact hb hx
      rw [upd_ne hbx]
      exact g'.fr b (by
        cases e : H1 b with
        | none => exact absurd e hb
        | some o => rw [same1 b o e]; simp) hz
    · by_cases hb : b = x
      · subst hb; rw [upd_same] at e; cases e; exact hx'
      · rw [upd_ne hb] at e; exact sub' b o e
    · obtain ⟨ca, ms, kk', l, e1, e2, e3, e4⟩ := pen' p hp
      refine ⟨ca, ms, kk', l, e1, ?_, ss _ _ e3, e4⟩
      rw [upd_ne (by rintro rfl; rw [hx'] at e1; cases e1)]
      exact e2
theorem de_make {C : Addr} {sp : DSpI} (G : Mkc X.prog X.w X.K X.mg X.base CX0 B.pn k x C ps sp) (hr : Room (k + 1) X.A) (hg : Gl X x) (ha : PA X (e :: es) (liftA X.K B tA)) (hdb : (x == ("__debug__" : Str)) = false := by decide)
    (he : starEach (e :: es) X.env = (false, eval e X.env) :: starEach es X.env := by rfl) (hpl : (backTo pos (starEach es X.env)).any (·.1) = false := by rfl) : PE X (.Call (.Name x p) (e :: es) [] pos) (lift X.K B (dMake C sp tA)) := by
  obtain ⟨f, fd, M, F, hm, hb⟩ := G.ex
  exact pe_imp (pe_make M F hr hg hm hb .nil pass0 ha hdb he hpl) fun σ H Q h => make_lift h

/-! ### self.f = e in an __init__ -/
theorem putF_new {f : Str} {y : V} : ∀ {ns : List Str} {vs : List V}, ¬ f ∈ ns → ns.length = vs.length → putF f y (ns.zip vs) = (ns ++ [f]).zip (vs ++ [y])
  | [], [], _, _ => rfl
  | [], _ :: _, _, h => by simp at h
  | _ :: _, [], _, h => by simp at h
  | x :: ns, v :: vs, h, hl => by
    have hx : ¬ x = f := fun z => h (by rw [z]; exact List.mem_cons_self)
    have ih := putF_new (y := y) (fun z => h (List.mem_cons_of_mem _ z)) (by simpa using hl : ns.length = vs.length)
    show putF f y ((x, v) :: ns.zip vs) = (x, v) :: ((ns ++ [f]).zip (vs ++ [y]))
    rw [← ih]
    show (if x = f then _ else _) = _
    rw [if_neg hx]
def nwOf (K : PySem.W.Frag) (f : Str) (d : D) (P : Sl → Prop) : Option Sl → Prop
  | some (.nw c ns ds) => (Fld K c f ∧ ns.length < 900 ∧ ¬ f ∈ ns) ∧ P (.nw c (ns ++ [f]) (ds ++ [d]))
  | _ => False
def dNew (K : PySem.W.Frag) (i : Nat) (f : Str) (t : DT) : DS := fun Dd env n => t env n (fun d n1 => nwOf K f d (fun sl => Dd.nx (env.set i sl) n1) env[i]?) (fun x n1 => Dd.ex x env n1)
theorem DI.nw {K : PySem.W.Frag} {env : DEnv} {n : Nat} {σ : L2.St} {Hs H : Hp} {i : Nat} {C dx a : Addr} {ns ns' : List Str} {ds ds' : List D} {vs vs' : List V} (I : DI K B env n σ Hs H) (ei : env[i]? = some (.nw C ns ds)) (ea : σ[i]? = some (some (.ref a)))
    (hs : Hs a = none) (hm : a ∈ B.mu) (eh : H a = some (.ins C dx (ns.zip vs))) (hl : ns'.length = vs'.length) (r : Reps K Hs ds' vs') : DI K B (env.set i (.nw C ns' ds')) n σ Hs (upd H a (.ins C dx (ns'.zip vs'))) := by
  have hi : i < env.length := (List.getElem?_eq_some_iff.mp ei).1
  refine ⟨fun b o e => ?_, fun p hp => ⟨(I.pen p hp).1, ?_⟩, ⟨I.gr.sh, fun b o hb e => ?_, fun b hb => ?_, I.gr.fr, fun q ca r e => let ⟨r1, e1⟩ := I.gr.pc q ca r e; ⟨r1, by rw [upd_ne (by rintro rfl; rw [eh] at e1; cases e1)]; exact e1⟩⟩, by simp [I.len], fun j sl e => ?_, fun j k b sj sk ej ek oj ok => ?_⟩
  · rw [upd_ne (by rintro rfl; rw [hs] at e; cases e)]; exact I.sub b o e
  · obtain ⟨ca, ms, kk, l, e1, e2, e3, e4⟩ := (I.pen p hp).2
    exact ⟨ca, ms, kk, l, by rw [upd_ne (by rintro rfl; rw [eh] at e1; cases e1)]; exact e1, e2, e3, e4⟩
  · rw [upd_ne (by rintro rfl; exact hb hm)]; exact I.gr.ex b o hb e
  · by_cases z : b = a
    · subst z; rw [upd_same]; simp
    · rw [upd_ne z]; exact I.gr.al b hb
  · by_cases h : i = j
    · subst h
      rw [List.getElem?_set_self hi] at e
      cases e
      exact ⟨a, dx, vs', ea, hs, hm, upd_same, hl, r⟩
    · rw [List.getElem?_set_ne h] at e
      have q := I.ok j sl e
      cases sl with
      | un => trivial
      | sh d => exact q
      | ow l =>
        obtain ⟨b, ws, h1, h2, h3, h4, h5⟩ := q
        exact ⟨b, ws, h1, h2, h3, by rw [upd_ne (by rintro rfl; rw [eh] at h4; cases h4)]; exact h4, h5⟩
      | nw c ns2 ds2 =>
        obtain ⟨b, dy, ws, h1, h2, h3, h4, h5, h6⟩ := q
        have hba : b ≠ a := by
          rintro rfl
          exact h (I.dis i j b _ _ ei e (by rw [ea]; rfl) (by rw [h1]; rfl))
        exact ⟨b, dy, ws, h1, h2, h3, by rw [upd_ne hba]; exact h4, h5, h6⟩
  · have key : ∀ (m : Nat) (sl : Sl), (env.set i (.nw C ns' ds'))[m]? = some sl → ownA sl σ[m]? = some b → ∃ sl', env[m]? = some sl' ∧ ownA sl' σ[m]? = some b := fun m sl e o => by
      by_cases h : i = m
      · subst h
        rw [List.getElem?_set_self hi] at e
        cases e
        refine ⟨_, ei, ?_⟩
        rw [ea] at o ⊢
        exact o
      · rw [List.getElem?_set_ne h] at e
        exact ⟨sl, e, o⟩
    obtain ⟨s1, a1, b1⟩ := key j sj ej oj
    obtain ⟨s2, a2, b2⟩ := key k sk ek ok
    exact I.dis j k b s1 s2 a1 a2 b1 b2
theorem ds_new (i : Nat) {st : Stmt} {f : Str} (h : PS X st (sFld X.K (tVar i) (lift X.K B t) f)) : PS X st (liftS X.K B (dNew X.K i f t)) := ps_imp h fun D σ H ⟨Hs, env, n, Dd, I, h, L⟩ =>
  ⟨Hs, env, n, _, _, I, h, fun v d n1 Hs1 H1 g r q => by
    have I1 := I.call g
    cases e : env[i]? with
    | none => rw [e] at q; exact False.elim q
    | some sl =>
      rw [e] at q
      cases sl <;> first | exact False.elim q | skip
      rename_i c ns ds
      obtain ⟨⟨hF, hlt, hni⟩, q⟩ := q
      obtain ⟨a, dx, vs, h1, h2, h3, h4, h5, h6⟩ := I1.ok i _ e
      refine ⟨.ref a, h1, a, c, dx, _, rfl, h4, hF.1, hF.2, by simp; omega, ?_⟩
      rw [putF_new hni h5]
      exact L.nx _ n1 _ Hs1 _ g.gr.sh (I1.nw e h1 h2 h3 h4 (by simp [h5]) (h6.snoc r)) q, L.cox I⟩
end
end DL

namespace DL
open PySem L2 PyProof.Rows

def startD (N : List Str) (ds : List D) : DEnv := ds.map .sh ++ List.replicate (N.length - ds.length) .un
theorem startD_get {N : List Str} {ds : List D} {i : Nat} {sl : Sl} (h : (startD N ds)[i]? = some sl) : (∃ d, ds[i]? = some d ∧ sl = .sh d) ∨ sl = .un := by
  unfold startD at h
  by_cases hi : i < ds.length
  · rw [List.getElem?_append_left (by simpa using hi), List.getElem?_map] at h
    cases e : ds[i]? with
    | none => rw [e] at h; cases h
    | some d => rw [e] at h; cases h; exact Or.inl ⟨d, rfl, rfl⟩
  · rw [List.getElem?_append_right (by simpa using hi)] at h
    have := List.getElem?_eq_some_iff.mp h
    obtain ⟨_, e⟩ := this
    rw [List.getElem_replicate] at e
    exact Or.inr e.symm
theorem DI.start {K : PySem.W.Frag} {pn : Option Addr} {W : WX} {N : List Str} {ds : List D} {vs : List V} {n : Nat} {Hs H : Hp} (sub : Same Hs H) (pen : ∀ p, pn = some p → PenOk Hs H p n) (r : Reps K Hs ds vs) (hN : vs.length ≤ N.length) :
    DI K ⟨pn, pn.toList, Hs, H, W⟩ (startD N ds) n (L2.start N vs) Hs H := by
  have hl := r.length
  refine ⟨sub, fun p hp => ⟨by rw [show (Bs.mk pn pn.toList Hs H W).mu = pn.toList from rfl, show pn = some p from hp]; simp, pen p hp⟩, Grow.refl, by simp [startD, L2.start, hl], fun i sl e => ?_, fun i j a si sj ei ej oi oj => ?_⟩
  · rcases startD_get e with ⟨d, hd, rfl⟩ | rfl
    · obtain ⟨v, hv, rv⟩ := r.get hd
      refine ⟨v, ?_, rv⟩
      unfold L2.start
      have hi : i < vs.length := (List.getElem?_eq_some_iff.mp hv).1
      rw [List.getElem?_append_left (by simpa using hi), List.getElem?_map, hv]
      rfl
    · trivial
  · rcases startD_get ei with ⟨d, hd, rfl⟩ | rfl <;> simp [ownA] at oi
def fnEnds (R : DR) : DEnds := { nx := fun _ n => R .non n, rt := R, ex := fun _ _ _ => False }
section
variable {P : Program} {w : World} {K : PySem.W.Frag} {mg : Str → Option Value} {base : Heap} {x qual : Str} {params : Arguments} {body : List Stmt} {scope : Scope} {kws : List (Str × V)} {f : Addr} {fd : FuncData} {N ps : List Str} {k : Nat} {pn : Option Addr}
/-- THE RULE for a def that raises nothing -/
theorem dfn {sp : DSp} {t : DS} (F : FunD K x qual params body scope [] kws f fd) (S : FnScope N ps scope) (hl : ∀ ds n R Rx, sp ds n R Rx → ds.length = ps.length) (hps : ps.length ≤ N.length)
    (der : ∀ (cdv : Value) (A : Around) (outer : List Env) (s : Shared) (H : Hp) (E : XK), Room k (A.deeper (envOfC qual scope s.heap.objs.size f cdv)) → ∀ (mu : List Addr) (Hs0 H0 : Hp),
      PSs (cxOf CX0 P w K mg base N qual scope f cdv A outer s H E).nox body (liftS (cxOf CX0 P w K mg base N qual scope f cdv A outer s H E).nox.K ⟨pn, mu, Hs0, H0, fun _ _ _ _ => False⟩ t))
    (hp : ∀ ds n R Rx, sp ds n R Rx → t (fnEnds R) (startD N ds) n) : FnOk P w K mg base CX0 (k + 1) f fd ps (liftSp K pn sp) := by
  refine F.ok S (fun vs H Q E h => ?_) (fun cdv A outer s H vs Q E hr h => ?_)
  · obtain ⟨Hs, n, ds, R, Rx, _, _, r, q, _⟩ := h
    rw [← r.length]
    exact hl ds n R Rx q
  · obtain ⟨Hs, n, ds, R, Rx, sub, pen, r, q, kk, _⟩ := h
    have hlen : vs.length ≤ N.length := by rw [← r.length, hl ds n R Rx q]; exact hps
    refine ⟨_, PSs.nox (der cdv A outer s H E hr pn.toList Hs H), Hs, startD N ds, n, fnEnds R, DI.start sub pen r hlen, hp ds n R Rx q, ?_⟩
    refine ⟨fun env n' σ Hs' H' s' I q => ?_, fun v d env n' σ Hs' H' s' I r' q => ?_, fun _ _ _ _ _ _ _ z => z.elim, fun _ _ _ _ _ _ _ z => z.elim, fun _ _ _ _ _ _ _ _ _ _ _ z => z.elim⟩
    · exact kk .non .non n' Hs' H' ⟨I.gr, I.sub, I.pn⟩ rfl q
    · exact kk v d n' Hs' H' ⟨I.gr, I.sub, I.pn⟩ r' q
/-- a def of the top, by name -/
theorem fn_mk {sp : DSp} (G : FnOk P w K mg base CX0 k f fd ps (liftSp K pn sp)) (F : FunD K x qual params body scope [] kws f fd) (hm : mg x = some (.ref f)) (hb : Binds K fd ps []) : Fn P w K mg base CX0 pn k x ps sp := ⟨f, fd, G, hm, F.kp, hb⟩
theorem me_mk {sp : DSp} {C : Addr} {m : Str} (c : Cls K C) (M : Meth K C m f) (G : FnOk P w K mg base CX0 k f fd ps (liftSp K pn sp)) (hb : Binds K fd ps []) : Me P w K mg base CX0 pn k C m ps sp := ⟨c, f, fd, G, M, hb⟩

/-! ### __init__ -/
def nwEnd (C : Addr) (R : List Str → List D → Nat → Prop) (env : DEnv) (n : Nat) : Prop := match (env[0]? : Option Sl) with
  | some (.nw c ns ds) => c = C ∧ R ns ds n
  | _ => False
def inEnds (C : Addr) (R : List Str → List D → Nat → Prop) : DEnds := { nx := nwEnd C R, rt := fun _ _ => False, ex := fun _ _ _ => False }
theorem dfnI {sp : DSpI} {t : DS} {C : Addr} {self : Str} {N' ps' : List Str} (F : FunD K x qual params body scope [] kws f fd) (S : FnScope (self :: N') (self :: ps') scope) (hl : ∀ ds n R Rx, sp ds n R Rx → ds.length = ps'.length) (hps : ps'.length ≤ N'.length)
    (der : ∀ (cdv : Value) (A : Around) (outer : List Env) (s : Shared) (H : Hp) (E : XK), Room k (A.deeper (envOfC qual scope s.heap.objs.size f cdv)) → ∀ (mu : List Addr) (Hs0 H0 : Hp),
      PSs (cxOf CX0 P w K mg base (self :: N') qual scope f cdv A outer s H E).nox body (liftS (cxOf CX0 P w K mg base (self :: N') qual scope f cdv A outer s H E).nox.K ⟨pn, mu, Hs0, H0, fun _ _ _ _ => False⟩ t))
    (hp : ∀ ds n R Rx, sp ds n R Rx → t (inEnds C R) (.nw C [] [] :: startD N' ds) n) : FnOk P w K mg base CX0 (k + 1) f fd (self :: ps') (liftI K pn C sp) := by
  refine F.ok S (fun vs H Q E h => ?_) (fun cdv A outer s H vs Q E hr h => ?_)
  · obtain ⟨x, dx, more, Hs, n, ds, R, Rx, rfl, _, _, _, _, r, q, _⟩ := h
    rw [List.length_cons, List.length_cons, ← r.length, hl ds n R Rx q]
  · obtain ⟨x, dx, more, Hs, n, ds, R, Rx, rfl, hx, hsx, sub, pen, r, q, kk, _⟩ := h
    have hlen : more.length ≤ N'.length := by rw [← r.length, hl ds n R Rx q]; exact hps
    have I0 : DI K ⟨pn, pn.toList, Hs, H, fun _ _ _ _ => False⟩ (startD N' ds) n (L2.start N' more) Hs H := DI.start sub pen r hlen
    have est : L2.start (self :: N') (V.ref x :: more) = some (V.ref x) :: L2.start N' more := by simp [L2.start]
    have I1 : DI K ⟨pn, x :: pn.toList, Hs, H, fun _ _ _ _ => False⟩ (.nw C [] [] :: startD N' ds) n (L2.start (self :: N') (V.ref x :: more)) Hs H := by
      rw [est]
      refine ⟨sub, fun p hp => ⟨List.mem_cons_of_mem _ (I0.pen p hp).1, pen p hp⟩, Grow.refl, by simp [I0.len], fun i sl e => ?_, fun i j a si sj ei ej oi oj => ?_⟩
      · cases i with
        | zero =>
          simp at e
          subst e
          exact ⟨x, dx, [], rfl, hsx, List.mem_cons_self, hx, rfl, rfl⟩
        | succ i =>
          have q := I0.ok i sl (by simpa using e)
          rcases startD_get (by simpa using e) with ⟨d, hd, rfl⟩ | rfl
          · exact q
          · trivial
      · cases i with
        | zero =>
          cases j with
          | zero => rfl
          | succ j => rcases startD_get (by simpa using ej) with ⟨d, hd, rfl⟩ | rfl <;> simp [ownA] at oj
        | succ i => rcases startD_get (by simpa using ei) with ⟨d, hd, rfl⟩ | rfl <;> simp [ownA] at oi
    refine ⟨_, PSs.nox (der cdv A outer s H E hr (x :: pn.toList) Hs H), Hs, _, n, inEnds C R, I1, hp ds n R Rx q, ?_⟩
    refine ⟨fun env n' σ Hs' H' s' I q => ?_, fun _ _ _ _ _ _ _ _ _ _ z => z.elim, fun _ _ _ _ _ _ _ z => z.elim, fun _ _ _ _ _ _ _ z => z.elim, fun _ _ _ _ _ _ _ _ _ _ _ z => z.elim⟩
    have q' : nwEnd C R env n' := q
    unfold nwEnd at q'
    cases e : env[0]? with
    | none => rw [e] at q'; exact q'.elim
    | some sl =>
      rw [e] at q'
      cases sl <;> first | exact False.elim q' | skip
      obtain ⟨rfl, q'⟩ := q'
      obtain ⟨a, dx', vs', h1, h2, h3, h4, h5, h6⟩ := I.ok 0 _ e
      have hax : a = x := by
        rcases List.mem_cons.mp h3 with z | z
        · exact z
        · cases hp : pn with
          | none => rw [hp] at z; simp at z
          | some p =>
            rw [hp] at z
            have z' : a = p := by simpa using z
            exact absurd z' (pen_ne (I.pen p hp).2 h4 (fun _ y => nomatch y))
      subst hax
      exact kk n' Hs' H' _ _ vs' dx' I.gr I.sub I.pn h4 h2 h5 h6 q'
theorem mkc_mk {sp : DSpI} {C : Addr} (M : Mk K C f) (hm : mg x = some (.ref C)) (G : FnOk P w K mg base CX0 k f fd ps (liftI K pn C sp)) (hb : Binds K fd ps []) : Mkc P w K mg base CX0 pn k x C ps sp := ⟨f, fd, M, G, hm, hb⟩
end
end DL

namespace DL
open PySem L2 PyProof.Rows

section
variable {X : Cx} {B : Bs} {K : PySem.W.Frag}

/-! ### ints -/
def fI (g : Int → Int → D) : D → D → (D → Prop) → Prop
  | .int i, .int j, R => R (g i j)
  | _, _, _ => False
def fIC (C : Int → Int → Prop) (g : Int → Int → D) : D → D → (D → Prop) → Prop
  | .int i, .int j, R => C i j ∧ R (g i j)
  | _, _, _ => False
theorem fI_of {g : Int → Int → D} {x y : D} {R : D → Prop} (h : fI g x y R) : ∃ i j, x = .int i ∧ y = .int j ∧ R (g i j) := by
  cases x <;> first | exact False.elim h | skip
  cases y <;> first | exact False.elim h | skip
  exact ⟨_, _, rfl, rfl, h⟩
theorem fIC_of {C : Int → Int → Prop} {g : Int → Int → D} {x y : D} {R : D → Prop} (h : fIC C g x y R) : ∃ i j, x = .int i ∧ y = .int j ∧ C i j ∧ R (g i j) := by
  cases x <;> first | exact False.elim h | skip
  cases y <;> first | exact False.elim h | skip
  exact ⟨_, _, rfl, rfl, h⟩
theorem int_v {Hs H : Hp} {i : Int} {v : V} (r : RepB K Hs H (.int i) v) : v = .int i := r.ne (by intro l z; cases z)
theorem str_v {Hs H : Hp} {i : Str} {v : V} (r : RepB K Hs H (.str i) v) : v = .str i := r.ne (by intro l z; cases z)
theorem opd_I0 {g : Int → Int → V} {gd : Int → Int → D} (hg : ∀ Hs i j, Rep K Hs (gd i j) (g i j)) : OpD K (rI0 g) (fI gd) := by
  intro pn n Hs H x y dx dy R Q sub pen rx ry h k
  obtain ⟨i, j, rfl, rfl, h⟩ := fI_of h
  exact ⟨i, j, int_v rx, int_v ry, k _ _ Hs H (Gone.refl sub pen) (hg Hs i j) h⟩
theorem opd_I {C : Int → Int → Prop} {g : Int → Int → V} {gd : Int → Int → D} (hg : ∀ Hs i j, Rep K Hs (gd i j) (g i j)) : OpD K (rI C g) (fIC C gd) := by
  intro pn n Hs H x y dx dy R Q sub pen rx ry h k
  obtain ⟨i, j, rfl, rfl, hc, h⟩ := fIC_of h
  exact ⟨i, j, int_v rx, int_v ry, hc, k _ _ Hs H (Gone.refl sub pen) (hg Hs i j) h⟩
def fSub : D → D → (D → Prop) → Prop := fI fun i j => .int (i - j)
def fMul : D → D → (D → Prop) → Prop := fIC IntMulOk fun i j => .int (i * j)
def fDiv : D → D → (D → Prop) → Prop := fIC CDivW fun i j => .int (i / j)
def fMod : D → D → (D → Prop) → Prop := fIC (fun _ j => 0 < j) fun i j => .int (i % j)
def fPow : D → D → (D → Prop) → Prop := fIC CPow fun i j => .int (i ^ j.toNat)
theorem od_sub : OpD K (rI0 fun i j => .int (i - j)) fSub := opd_I0 fun _ _ _ => rfl
theorem op_mulO : OpR X (binaryOp .Mult) (rI IntMulOk fun i j => .int (i * j)) := opI fun _ _ _ _ _ _ _ hc q => mul_int q hc
theorem od_mul : OpD K (rI IntMulOk fun i j => .int (i * j)) fMul := opd_I fun _ _ _ => rfl
theorem od_div : OpD K (rI CDivW fun i j => .int (i / j)) fDiv := opd_I fun _ _ _ => rfl
theorem od_mod : OpD K (rI (fun _ j => 0 < j) fun i j => .int (i % j)) fMod := opd_I fun _ _ _ => rfl
theorem od_pow : OpD K (rI CPow fun i j => .int (i ^ j.toNat)) fPow := opd_I fun _ _ _ => rfl
def fLt : D → D → (D → Prop) → Prop := fI fun i j => .bl (decide (i < j))
def fLe : D → D → (D → Prop) → Prop := fI fun i j => .bl (decide (i ≤ j))
def fGt : D → D → (D → Prop) → Prop := fI fun i j => .bl (decide (j < i))
def fGe : D → D → (D → Prop) → Prop := fI fun i j => .bl (decide (j ≤ i))
theorem od_lt : OpD K (rI0 fun i j => .bl (decide (i < j))) fLt := opd_I0 fun _ _ _ => rfl
theorem od_le : OpD K (rI0 fun i j => .bl (decide (i ≤ j))) fLe := opd_I0 fun _ _ _ => rfl
theorem od_gt : OpD K (rI0 fun i j => .bl (decide (j < i))) fGt := opd_I0 fun _ _ _ => rfl
theorem od_ge : OpD K (rI0 fun i j => .bl (decide (j ≤ i))) fGe := opd_I0 fun _ _ _ => rfl
def fNeg : D → (D → Prop) → Prop
  | .int i, R => R (.int (-i))
  | _, _ => False
theorem ud_neg : UnD K (rU fun i => .int (-i)) fNeg := by
  intro pn n Hs H x dx R Q sub pen rx h k
  cases dx <;> first | exact False.elim h | skip
  exact ⟨_, int_v rx, k _ (.int (-_)) Hs H (Gone.refl sub pen) rfl h⟩

/-! ### + -/
def fAdd : D → D → (D → Prop) → Prop
  | .int i, .int j, R => R (.int (i + j))
  | .str i, .str j, R => i.length + j.length ≤ sizeLine ∧ R (.str (i ++ j))
  | .tup l, .tup m, R => l.length + m.length ≤ sizeLine ∧ R (.tup (l ++ m))
  | .lst l, .lst m, R => l.length + m.length ≤ sizeLine ∧ R (.lst (l ++ m))
  | _, _, _ => False
def rAddD (K : PySem.W.Frag) : R2 := fun x y H Q => (rI0 (fun i j => V.int (i + j)) x y H Q ∨ ∃ i j, x = .str i ∧ y = .str j ∧ i.length + j.length ≤ sizeLine ∧ Q (.str (i ++ j)) H) ∨ rCatA K x y H Q ∨ rCat x y H Q
theorem op_addD : OpR X (binaryOp .Add) (rAddD X.K) := OpR.or (OpR.or op_add op_add_str) (OpR.or op_catA op_cat)
theorem od_add : OpD K (rAddD K) fAdd := by
  intro pn n Hs H x y dx dy R Q sub pen rx ry h k
  cases dx <;> first | exact False.elim h | skip
  · cases dy <;> first | exact False.elim h | skip
    exact Or.inl (Or.inl ⟨_, _, int_v rx, int_v ry, k _ (.int (_ + _)) Hs H (Gone.refl sub pen) rfl h⟩)
  · cases dy <;> first | exact False.elim h | skip
    exact Or.inl (Or.inr ⟨_, _, str_v rx, str_v ry, h.1, k _ (.str (_ ++ _)) Hs H (Gone.refl sub pen) rfl h.2⟩)
  · cases dy <;> first | exact False.elim h | skip
    obtain ⟨h1, h2⟩ := h
    obtain ⟨a, vs, rfl, ha, ra⟩ := rx.tup sub
    obtain ⟨b, us, rfl, hb, rb⟩ := ry.tup sub
    have la := ra.length
    have lb := rb.length
    rename_i l m
    obtain ⟨a', vs', e1, ha', ra'⟩ := rx.ne (by intro l z; cases z)
    cases e1
    obtain ⟨b', us', e2, hb', rb'⟩ := ry.ne (by intro l z; cases z)
    cases e2
    refine Or.inr (Or.inl ⟨a, b, vs, us, rfl, rfl, ha, hb, by omega, fun e => ?_, fun _ e => ?_, fun _ _ p hp => ?_⟩)
    · subst e
      have : l = [] := List.length_eq_zero_iff.mp la
      subst this
      exact k _ (.tup m) Hs H (Gone.refl sub pen) ⟨b, us', rfl, hb', rb'⟩ h2
    · subst e
      have : m = [] := List.length_eq_zero_iff.mp lb
      subst this
      rw [List.append_nil] at h2
      exact k _ (.tup l) Hs H (Gone.refl sub pen) ⟨a, vs', rfl, ha', ra'⟩ h2
    · exact k _ (.tup (l ++ m)) (upd Hs p (.tup (vs ++ us))) _ (Gone.new sub hp pen) ⟨p, _, rfl, SqT.of upd_same, (ra.append rb).mono (same_new sub hp)⟩ h2
  · cases dy <;> first | exact False.elim h | skip
    obtain ⟨h1, h2⟩ := h
    obtain ⟨a, vs, rfl, ha, ra⟩ := rx.list sub
    obtain ⟨b, us, rfl, hb, rb⟩ := ry.list sub
    have la := ra.length
    have lb := rb.length
    refine Or.inr (Or.inr ⟨a, b, vs, us, rfl, rfl, ha, hb, by omega, fun p hp => ?_⟩)
    exact k _ (.lst (_ ++ _)) (upd Hs p (.lst (vs ++ us))) _ (Gone.new sub hp pen) ⟨p, _, rfl, upd_same, (ra.append rb).mono (same_new sub hp)⟩ h2

/-! ### == -/
mutual
def toP : D → PyData
  | .non => .none
  | .bl b => .bool b
  | .int i => .int i
  | .str x => .str x
  | .tup l => .tuple (toPs l)
  | .lst l => .list (toPs l)
  | _ => .none
def toPs : List D → List PyData
  | [] => []
  | d :: l => toP d :: toPs l
end
mutual
/-- plain, not deeper than k -/
def plain : Nat → D → Bool
  | _, .non => true
  | _, .bl _ => true
  | _, .int _ => true
  | _, .str x => PyData.strOk x
  | k + 1, .tup l => plainAll k l
  | k + 1, .lst l => plainAll k l
  | _, _ => false
def plainAll : Nat → List D → Bool
  | _, [] => true
  | k, d :: l => plain k d && plainAll k l
end
mutual
theorem plain_rep {Hs H : Hp} (sub : Same Hs H) : ∀ (k : Nat) (d : D) (v : V), plain k d = true → RepB K Hs H d v → Dp K H v (toP d)
  | k, .non, v, _, r => by cases r.ne (by intro l z; cases z); exact Dp.non
  | k, .bl b, v, _, r => by cases r.ne (by intro l z; cases z); exact Dp.bl b
  | k, .int b, v, _, r => by cases r.ne (by intro l z; cases z); exact Dp.int b
  | k, .str b, v, _, r => by cases r.ne (by intro l z; cases z); exact Dp.str b
  | 0, .tup l, v, h, r => by simp [plain] at h
  | 0, .lst l, v, h, r => by simp [plain] at h
  | k + 1, .tup l, v, h, r => by
    obtain ⟨a, vs, rfl, h2, h3⟩ := r.tup sub
    exact Dp.tup h2 (plain_reps sub k l vs (by simpa [plain] using h) h3)
  | k + 1, .lst l, v, h, r => by
    obtain ⟨a, vs, rfl, h2, h3⟩ := r.list sub
    exact Dp.lst (SqL.of h2) (plain_reps sub k l vs (by simpa [plain] using h) h3)
  | k, .obj _ _ _, v, h, r => by simp [plain] at h
  | k, .dct _ _, v, h, r => by simp [plain] at h
  | k, .ref _, v, h, r => by simp [plain] at h
  | k, .ty _, v, h, r => by simp [plain] at h
  | k, .scr _, v, h, r => by simp [plain] at h
theorem plain_reps {Hs H : Hp} (sub : Same Hs H) : ∀ (k : Nat) (l : List D) (vs : List V), plainAll k l = true → Reps K Hs l vs → DpAll K H vs (toPs l)
  | k, [], vs, _, r => by cases r; exact DpAll.nil
  | k, d :: l, vs, h, r => by
    obtain ⟨v, r', rfl, rv, rr⟩ := r
    rw [plainAll, Bool.and_eq_true] at h
    exact DpAll.cons (plain_rep sub k d v h.1 (Or.inl rv)) (plain_reps sub k l r' h.2 rr)
end
mutual
theorem plain_lay : ∀ (k : Nat) (d : D), plain k d = true → (toP d).canLay0 = true ∧ (toP d).depth ≤ k
  | k, .non, _ => ⟨rfl, Nat.zero_le _⟩
  | k, .bl b, _ => ⟨rfl, Nat.zero_le _⟩
  | k, .int b, _ => ⟨rfl, Nat.zero_le _⟩
  | k, .str b, h => ⟨by simp only [plain] at h; exact h, Nat.zero_le _⟩
  | 0, .tup l, h => by simp [plain] at h
  | 0, .lst l, h => by simp [plain] at h
  | k + 1, .tup l, h => by
    obtain ⟨h1, h2⟩ := plain_lays k l (by simpa [plain] using h)
    exact ⟨h1, Nat.succ_le_succ h2⟩
  | k + 1, .lst l, h => by
    obtain ⟨h1, h2⟩ := plain_lays k l (by simpa [plain] using h)
    exact ⟨h1, Nat.succ_le_succ h2⟩
  | k, .obj _ _ _, h => by simp [plain] at h
  | k, .dct _ _, h => by simp [plain] at h
  | k, .ref _, h => by simp [plain] at h
  | k, .ty _, h => by simp [plain] at h
  | k, .scr _, h => by simp [plain] at h
theorem plain_lays : ∀ (k : Nat) (l : List D), plainAll k l = true → PyData.canLayAll0 (toPs l) = true ∧ PyData.depthAll (toPs l) ≤ k
  | k, [], _ => ⟨rfl, Nat.zero_le _⟩
  | k, d :: l, h => by
    rw [plainAll, Bool.and_eq_true] at h
    obtain ⟨h1, h2⟩ := plain_lay k d h.1
    obtain ⟨h3, h4⟩ := plain_lays k l h.2
    exact ⟨by rw [toPs, PyData.canLayAll0, h1, h3]; rfl, by rw [toPs, PyData.depthAll]; omega⟩
end
theorem plain_shaped {k : Nat} {d : D} (h : plain k d = true) (hk : k ≤ 64) : SeqAt.shaped (toP d) = true := by
  obtain ⟨h1, h2⟩ := plain_lay k d h
  unfold SeqAt.shaped
  rw [h1, Bool.true_and]
  exact decide_eq_true (Nat.le_trans h2 hk)
mutual
/-- == of plain data -/
def deq : D → D → Bool
  | .non, .non => true
  | .bl a, .bl b => a == b
  | .bl a, .int b => (if a then 1 else 0) == b
  | .int a, .bl b => a == (if b then 1 else 0)
  | .int a, .int b => a == b
  | .str a, .str b => a == b
  | .tup l, .tup m => deqAll l m
  | .lst l, .lst m => deqAll l m
  | _, _ => false
def deqAll : List D → List D → Bool
  | [], [] => true
  | x :: l, y :: m => deq x y && deqAll l m
  | _, _ => false
end
mutual
theorem deq_eqv : ∀ (k : Nat) (x y : D), plain k x = true → plain k y = true → PyData.eqv (toP x) (toP y) = deq x y := fun k x y hx hy => by
  cases k with
  | zero => cases x <;> cases y <;> first | rfl | (exfalso; revert hx hy; simp [plain]; done)
  | succ k =>
    cases x <;> cases y <;> first | rfl | (exfalso; revert hx hy; simp [plain]; done) | skip
    · rw [toP, toP, PyData.eqv, deq]; exact deqs_eqv k _ _ (by simpa [plain] using hx) (by simpa [plain] using hy)
    · rw [toP, toP, PyData.eqv, deq]; exact deqs_eqv k _ _ (by simpa [plain] using hx) (by simpa [plain] using hy)
theorem deqs_eqv : ∀ (k : Nat) (l m : List D), plainAll k l = true → plainAll k m = true → PyData.eqvAll (toPs l) (toPs m) = deqAll l m
  | k, [], [], _, _ => rfl
  | k, [], _ :: _, _, _ => rfl
  | k, _ :: _, [], _, _ => rfl
  | k, x :: l, y :: m, hl, hm => by
    rw [plainAll, Bool.and_eq_true] at hl hm
    rw [toPs, toPs, PyData.eqvAll, deqAll, deq_eqv k x y hl.1 hm.1, deqs_eqv k l m hl.2 hm.2]
end
def fEq (b : Bool) : D → D → (D → Prop) → Prop := fun x y R => (plain 30 x = true ∧ plain 30 y = true) ∧ R (.bl (deq x y == b))
theorem od_eq : OpD K (rEqD K) (fEq true) := by
  intro pn n Hs H x y dx dy R Q sub pen rx ry h k
  obtain ⟨⟨h1, h2⟩, h3⟩ := h
  refine ⟨_, _, plain_rep sub 30 dx x h1 rx, plain_rep sub 30 dy y h2 ry, plain_shaped h1 (by decide), plain_shaped h2 (by decide), ?_⟩
  rw [deq_eqv 30 dx dy h1 h2]
  exact k _ (.bl _) Hs H (Gone.refl sub pen) (by cases deq dx dy <;> rfl) h3
theorem od_ne : OpD K (rNeD K) (fEq false) := by
  intro pn n Hs H x y dx dy R Q sub pen rx ry h k
  obtain ⟨⟨h1, h2⟩, h3⟩ := h
  refine ⟨_, _, plain_rep sub 30 dx x h1 rx, plain_rep sub 30 dy y h2 ry, plain_shaped h1 (by decide), plain_shaped h2 (by decide), ?_⟩
  rw [deq_eqv 30 dx dy h1 h2]
  exact k _ (.bl _) Hs H (Gone.refl sub pen) (by cases deq dx dy <;> rfl) h3
/-! ### is None -/
def isNonD : D → Bool
  | .non => true
  | _ => false
def fIsN (b : Bool) : D → D → (D → Prop) → Prop
  | x, .non, R => R (.bl (isNonD x == b))
  | _, _, _ => False
theorem rep_non {Hs H : Hp} {d : D} {v : V} (r : RepB K Hs H d v) : decide (v = .non) = isNonD d := by
  cases d with
  | non => cases r.ne (by intro l z; cases z); rfl
  | bl _ => cases r.ne (by intro l z; cases z); rfl
  | int _ => cases r.ne (by intro l z; cases z); rfl
  | str _ => cases r.ne (by intro l z; cases z); rfl
  | tup _ => obtain ⟨a, vs, rfl, _⟩ := r.ne (by intro l z; cases z); rfl
  | lst _ =>
    rcases r with ⟨a, vs, rfl, _⟩ | ⟨l, a, vs, _, rfl, _⟩ <;> rfl
  | obj _ _ _ => obtain ⟨a, dx, vs, rfl, _⟩ := r.ne (by intro l z; cases z); rfl
  | dct _ _ => obtain ⟨a, vs, rfl, _⟩ := r.ne (by intro l z; cases z); rfl
  | ref _ => cases r.ne (by intro l z; cases z); rfl
  | ty _ => cases r.ne (by intro l z; cases z); rfl
  | scr _ => obtain ⟨a, rfl, _⟩ := r.ne (by intro l z; cases z); rfl
theorem od_isN : OpD K (fun x y H Q => y = .non ∧ Q (.bl (decide (x = .non))) H) (fIsN true) := by
  intro pn n Hs H x y dx dy R Q sub pen rx ry h k
  cases dy <;> first | exact False.elim h | skip
  refine ⟨ry.ne (by intro l z; cases z), ?_⟩
  rw [rep_non rx]
  exact k _ (.bl _) Hs H (Gone.refl sub pen) (by cases isNonD dx <;> rfl) h
theorem od_notN : OpD K (fun x y H Q => y = .non ∧ Q (.bl (!decide (x = .non))) H) (fIsN false) := by
  intro pn n Hs H x y dx dy R Q sub pen rx ry h k
  cases dy <;> first | exact False.elim h | skip
  refine ⟨ry.ne (by intro l z; cases z), ?_⟩
  rw [rep_non rx]
  exact k _ (.bl _) Hs H (Gone.refl sub pen) (by cases isNonD dx <;> rfl) h
/-! ### o[i] -/
def atOf (R : D → Prop) : Option D → Prop
  | some d => R d
  | none => False
def chOf (R : D → Prop) : Option Nat → Prop
  | some c => R (.str ⟨#[c]⟩)
  | none => False
def fIx : D → D → (D → Prop) → Prop
  | .tup l, .int i, R => atOf R (atI l i)
  | .lst l, .int i, R => atOf R (atI l i)
  | .str x, .int i, R => x.length ≤ sizeLine ∧ chOf R (atI x.cps.toList i)
  | _, _, _ => False
theorem reps_at {H : Hp} {l : List D} {vs : List V} {i : Int} {d : D} (r : Reps K H l vs) (e : atI l i = some d) : ∃ v, atI vs i = some v ∧ Rep K H d v := by
  unfold atI at e ⊢
  rw [← r.length]
  cases h : ixN l.length i with
  | none => rw [h] at e; cases e
  | some j =>
    rw [h] at e
    exact r.get e
theorem od_ix : OpD K (rIx K) fIx := by
  intro pn n Hs H x y dx dy R Q sub pen rx ry h k
  cases dx <;> first | exact False.elim h | skip
  · cases dy <;> first | exact False.elim h | skip
    rename_i s i
    obtain ⟨h1, h2⟩ := h
    cases e : atI s.cps.toList i with
    | none => rw [e] at h2; exact h2.elim
    | some c =>
      rw [e] at h2
      exact Or.inr (Or.inr ⟨s, i, c, str_v rx, int_v ry, h1, e, k _ (.str _) Hs H (Gone.refl sub pen) rfl h2⟩)
  · cases dy <;> first | exact False.elim h | skip
    rename_i l i
    have h' : atOf R (atI l i) := h
    cases e : atI l i with
    | none => rw [e] at h'; exact h'.elim
    | some d =>
      rw [e] at h'
      obtain ⟨a, vs, rfl, ha, ra⟩ := rx.tup sub
      obtain ⟨v, hv, rv⟩ := reps_at ra e
      exact Or.inr (Or.inl ⟨a, vs, i, v, rfl, int_v ry, ha, hv, k v d Hs H (Gone.refl sub pen) rv h'⟩)
  · cases dy <;> first | exact False.elim h | skip
    rename_i l i
    have h' : atOf R (atI l i) := h
    cases e : atI l i with
    | none => rw [e] at h'; exact h'.elim
    | some d =>
      rw [e] at h'
      obtain ⟨a, vs, rfl, ha, ra⟩ := rx.list sub
      obtain ⟨v, hv, rv⟩ := reps_at ra e
      exact Or.inl ⟨a, vs, i, v, rfl, int_v ry, SqL.of ha, hv, k v d Hs H (Gone.refl sub pen) rv h'⟩

/-! ### built-in functions -/
theorem repsB1 {Hs H : Hp} {d : D} {vs : List V} (r : RepsB K Hs H [d] vs) : ∃ v, vs = [v] ∧ RepB K Hs H d v := by
  obtain ⟨v, r', rfl, rv, e⟩ := r
  have e' : r' = [] := e
  subst e'
  exact ⟨v, rfl, rv⟩
theorem repsB2 {Hs H : Hp} {d d' : D} {vs : List V} (r : RepsB K Hs H [d, d'] vs) : ∃ v v', vs = [v, v'] ∧ RepB K Hs H d v ∧ RepB K Hs H d' v' := by
  obtain ⟨v, r', rfl, rv, r2⟩ := r
  obtain ⟨v', rfl, rv'⟩ := repsB1 r2
  exact ⟨v, v', rfl, rv, rv'⟩
def fInt : List D → (D → Prop) → Prop
  | [.int i], R => R (.int i)
  | [.bl b], R => R (.int (if b then 1 else 0))
  | _, _ => False
theorem cd_int : CaD K (fun xs H Q => (∃ i, xs = [.int i] ∧ Q (.int i) H) ∨ ∃ k, xs = [.bl k] ∧ Q (.int (if k then 1 else 0)) H) fInt := by
  intro pn n Hs H xs ds R Q sub pen r h k
  unfold fInt at h
  split at h
  · obtain ⟨v, rfl, rv⟩ := repsB1 r
    cases int_v rv
    exact Or.inl ⟨_, rfl, k _ (.int _) Hs H (Gone.refl sub pen) rfl h⟩
  · obtain ⟨v, rfl, rv⟩ := repsB1 r
    cases rv.ne (by intro l z; cases z)
    exact Or.inr ⟨_, rfl, k _ (.int _) Hs H (Gone.refl sub pen) rfl h⟩
  · exact h.elim
def fAbs (ds : List D) (R : D → Prop) : Prop := onInt1 (fun i => R (.int (if i < 0 then -i else i))) ds
theorem cd_abs : CaD K (fun xs H Q => ∃ i, xs = [.int i] ∧ Q (.int (if i < 0 then -i else i)) H) fAbs := by
  intro pn n Hs H xs ds R Q sub pen r h k
  obtain ⟨i, rfl, h⟩ := onInt1_of h
  obtain ⟨v, rfl, rv⟩ := repsB1 r
  cases int_v rv
  exact ⟨_, rfl, k _ (.int _) Hs H (Gone.refl sub pen) rfl h⟩
def fMin (ds : List D) (R : D → Prop) : Prop := onInt2 (fun i j => R (.int (if j < i then j else i))) ds
def fMax (ds : List D) (R : D → Prop) : Prop := onInt2 (fun i j => R (.int (if j > i then j else i))) ds
theorem cd_min : CaD K (fun xs H Q => ∃ i j, xs = [.int i, .int j] ∧ Q (.int (if j < i then j else i)) H) fMin := by
  intro pn n Hs H xs ds R Q sub pen r h k
  obtain ⟨i, j, rfl, h⟩ := onInt2_of h
  obtain ⟨v, v', rfl, rv, rv'⟩ := repsB2 r
  cases int_v rv
  cases int_v rv'
  exact ⟨_, _, rfl, k _ (.int _) Hs H (Gone.refl sub pen) rfl h⟩
theorem cd_max : CaD K (fun xs H Q => ∃ i j, xs = [.int i, .int j] ∧ Q (.int (if j > i then j else i)) H) fMax := by
  intro pn n Hs H xs ds R Q sub pen r h k
  obtain ⟨i, j, rfl, h⟩ := onInt2_of h
  obtain ⟨v, v', rfl, rv, rv'⟩ := repsB2 r
  cases int_v rv
  cases int_v rv'
  exact ⟨_, _, rfl, k _ (.int _) Hs H (Gone.refl sub pen) rfl h⟩
def fLen : List D → (D → Prop) → Prop
  | [.tup l], R => R (.int l.length)
  | [.lst l], R => R (.int l.length)
  | [.scr l], R => R (.int l.length)
  | [.str x], R => x.length ≤ sizeLine ∧ R (.int x.length)
  | _, _ => False
theorem cd_len : CaD K (fun xs H Q => ∃ x n, xs = [x] ∧ LenV K x H n ∧ Q (.int n) H) fLen := by
  intro pn n Hs H xs ds R Q sub pen r h k
  unfold fLen at h
  split at h
  · obtain ⟨v, rfl, rv⟩ := repsB1 r
    obtain ⟨a, vs, rfl, ha, ra⟩ := rv.tup sub
    exact ⟨_, _, rfl, Or.inr ⟨vs, ha, rfl⟩, k _ (.int _) Hs H (Gone.refl sub pen) (by rw [← ra.length]; exact rfl) h⟩
  · obtain ⟨v, rfl, rv⟩ := repsB1 r
    obtain ⟨a, vs, rfl, ha, ra⟩ := rv.list sub
    exact ⟨_, _, rfl, Or.inl ⟨vs, SqL.of ha, rfl⟩, k _ (.int _) Hs H (Gone.refl sub pen) (by rw [← ra.length]; exact rfl) h⟩
  · obtain ⟨v, rfl, rv⟩ := repsB1 r
    obtain ⟨a, rfl, ha⟩ := rv.ne (by intro l z; cases z)
    exact ⟨_, _, rfl, Or.inl ⟨_, same_l sub ha, rfl⟩, k _ (.int _) Hs H (Gone.refl sub pen) (by rw [List.length_map]; exact rfl) h⟩
  · obtain ⟨v, rfl, rv⟩ := repsB1 r
    cases str_v rv
    exact ⟨_, _, rfl, ⟨h.1, rfl⟩, k _ (.int _) Hs H (Gone.refl sub pen) rfl h.2⟩
  · exact h.elim
/-! ### isinstance -/
def tyD : D → Option Value
  | .non => some (.type "NoneType")
  | .bl _ => some (.type "bool")
  | .int _ => some (.type "int")
  | .str _ => some (.type "str")
  | .tup _ => some (.type "tuple")
  | .lst _ => some (.type "list")
  | .dct _ _ => some (.type "dict")
  | .obj c _ _ => some (.ref c)
  | _ => none
/-- what isinstance asks of an own class -/
structure IsC (K : PySem.W.Frag) (C : Addr) : Prop where
  cl : Cls K C
  ha : PySem.W.findIn K (.ref C) "__class__" = some (some (.builtin "object.__class__"))
  hn : PySem.W.specialIn K (.builtin "object.__class__") "__get__" = some (some (.builtin "getset_descriptor.__get__"))
  ht : PySem.W.takesIn K (.builtin "object.__class__") = some true
  hm : PySem.W.mroIn K C (.type "object") = some true
def okCls (K : PySem.W.Frag) : D → Prop
  | .obj c _ _ => IsC K c
  | _ => True
theorem tyX_of {Hs H : Hp} {d : D} {v : V} {t : Value} (sub : Same Hs H) (r : RepB K Hs H d v) (h : tyD d = some t) (hc : okCls K d) : TyX K H v t := by
  cases d with
  | non => cases h; cases r.ne (by intro l z; cases z); exact .base .non
  | bl b => cases h; cases r.ne (by intro l z; cases z); exact .base (.bl b)
  | int b => cases h; cases r.ne (by intro l z; cases z); exact .base (.int b)
  | str b => cases h; cases r.ne (by intro l z; cases z); exact .base (.str b)
  | tup l =>
    cases h
    obtain ⟨a, vs, rfl, ha, _⟩ := r.tup sub
    rcases ha with (ha | ⟨o, ha⟩) | ⟨o, its, n, hk, ho, _⟩
    · exact .base (.tup ha)
    · exact .fTuple ha
    · exact .kTuple hk ho
  | lst l =>
    cases h
    obtain ⟨a, vs, rfl, ha, _⟩ := r.list sub
    exact .base (.lst ha)
  | dct ks l =>
    cases h
    obtain ⟨a, vs, rfl, ha, _⟩ := r.ne (by intro l z; cases z)
    exact .base (.dK (sub _ _ ha))
  | obj c ns l =>
    cases h
    obtain ⟨a, dx, vs, rfl, ha, _⟩ := r.ne (by intro l z; cases z)
    have hc' : IsC K c := hc
    exact .base (.ins (sub _ _ ha) hc'.cl hc'.ha hc'.hn hc'.ht hc'.hm)
  | ref _ => cases h
  | ty _ => cases h
  | scr _ => cases h
def clsD : D → Option Value
  | .ty n => some (.type n)
  | .ref c => some (.ref c)
  | _ => none
theorem clsD_of {Hs H : Hp} {d : D} {v : V} {u : Value} (r : RepB K Hs H d v) (h : clsD d = some u) : ClsV v u := by
  cases d <;> first | (cases h; done) | skip
  · cases h; cases r.ne (by intro l z; cases z); exact .own _
  · cases h; cases r.ne (by intro l z; cases z); exact .ty _
/-- isinstance(x, c) for one class -/
def fIsi (K : PySem.W.Frag) : List D → (D → Prop) → Prop := fun ds R => onTwo (fun x c => ∃ t u b, (tyD x = some t ∧ clsD c = some u ∧ okCls K x ∧ PySem.W.kitOne K t u = some b) ∧ R (.bl b)) ds
theorem cd_isi : CaD K (rIsi K) (fIsi K) := by
  intro pn n Hs H xs ds R Q sub pen r h k
  obtain ⟨x, c, rfl, t, u, b, ⟨h1, h2, h3, h4⟩, h5⟩ := onTwo_of h
  obtain ⟨v, v', rfl, rv, rv'⟩ := repsB2 r
  exact ⟨v, v', t, u, b, rfl, clsD_of rv' h2, tyX_of sub rv h1 h3, h4, k _ (.bl b) Hs H (Gone.refl sub pen) rfl h5⟩
end
end DL
namespace DL
open PySem L2 PyProof.Rows
/-! ### the readings at data of known form, for simp -/
section
variable {i j : Int} {x y : Str} {l m : List D} {R : D → Prop} {K : PySem.W.Frag} {a b : D} {n : Nat} {g : Int → Int → D} {Rn : DR} {f : Str} {c : Addr} {ns : List Str} {ds : List D} {Rb : Bool → Nat → Prop} {k : Bool} {P1 : Int → Prop} {P2 : Int → Int → Prop} {PD : D → D → Prop} {C : Int → Int → Prop} {s : Sl} {env : DEnv}
theorem z_fI : fI g (.int i) (.int j) R = R (g i j) := rfl
theorem z_fIC : fIC C g (.int i) (.int j) R = (C i j ∧ R (g i j)) := rfl
theorem z_sub : fSub (.int i) (.int j) R = R (.int (i - j)) := rfl
theorem z_mul : fMul (.int i) (.int j) R = (IntMulOk i j ∧ R (.int (i * j))) := rfl
theorem z_div : fDiv (.int i) (.int j) R = (CDivW i j ∧ R (.int (i / j))) := rfl
theorem z_mod : fMod (.int i) (.int j) R = (0 < j ∧ R (.int (i % j))) := rfl
theorem z_pow : fPow (.int i) (.int j) R = (CPow i j ∧ R (.int (i ^ j.toNat))) := rfl
theorem z_lt : fLt (.int i) (.int j) R = R (.bl (decide (i < j))) := rfl
theorem z_le : fLe (.int i) (.int j) R = R (.bl (decide (i ≤ j))) := rfl
theorem z_gt : fGt (.int i) (.int j) R = R (.bl (decide (j < i))) := rfl
theorem z_ge : fGe (.int i) (.int j) R = R (.bl (decide (j ≤ i))) := rfl
theorem z_neg : fNeg (.int i) R = R (.int (-i)) := rfl
theorem z_addI : fAdd (.int i) (.int j) R = R (.int (i + j)) := rfl
theorem z_addS : fAdd (.str x) (.str y) R = (x.length + y.length ≤ sizeLine ∧ R (.str (x ++ y))) := rfl
theorem z_addT : fAdd (.tup l) (.tup m) R = (l.length + m.length ≤ sizeLine ∧ R (.tup (l ++ m))) := rfl
theorem z_addL : fAdd (.lst l) (.lst m) R = (l.length + m.length ≤ sizeLine ∧ R (.lst (l ++ m))) := rfl
theorem z_isN : fIsN k a .non R = R (.bl (isNonD a == k)) := by cases a <;> rfl
theorem z_nonN : isNonD .non = true := rfl
theorem z_nonI : isNonD (.int i) = false := rfl
theorem z_nonS : isNonD (.str x) = false := rfl
theorem z_nonB : isNonD (.bl k) = false := rfl
theorem z_nonT : isNonD (.tup l) = false := rfl
theorem z_nonL : isNonD (.lst l) = false := rfl
theorem z_nonO : isNonD (.obj c ns ds) = false := rfl
theorem z_ixT : fIx (.tup l) (.int i) R = atOf R (atI l i) := rfl
theorem z_ixL : fIx (.lst l) (.int i) R = atOf R (atI l i) := rfl
theorem z_ixS : fIx (.str x) (.int i) R = (x.length ≤ sizeLine ∧ chOf R (atI x.cps.toList i)) := rfl
theorem z_at : atOf R (some a) = R a := rfl
theorem z_intI : fInt [.int i] R = R (.int i) := rfl
theorem z_intB : fInt [.bl k] R = R (.int (if k then 1 else 0)) := rfl
theorem z_lenT : fLen [.tup l] R = R (.int l.length) := rfl
theorem z_lenL : fLen [.lst l] R = R (.int l.length) := rfl
theorem z_lenC {z : List Int} : fLen [.scr z] R = R (.int z.length) := rfl
theorem z_lenS : fLen [.str x] R = (x.length ≤ sizeLine ∧ R (.int x.length)) := rfl
theorem z_one : onInt1 P1 [.int i] = P1 i := rfl
theorem z_two : onInt2 P2 [.int i, .int j] = P2 i j := rfl
theorem z_twoD : onTwo PD [a, b] = PD a b := rfl
theorem z_boolOf : boolOf Rb (.bl k) n = Rb k n := rfl
theorem z_fld : fldOf K f Rn (.obj c ns ds) n = (Fld K c f ∧ someOf Rn n (lookD f ns ds)) := rfl
theorem z_some : someOf Rn n (some a) = Rn a n := rfl
theorem z_cls {c' : Addr} : clsIs c' (.obj c ns ds) = (c = c') := rfl
theorem z_clsI {c' : Addr} : clsIs c' (.int i) = False := rfl
theorem z_isInt : isIntD (.int i) = True := rfl
theorem z_isIntO : isIntD (.obj c ns ds) = False := rfl
theorem z_seqL : seqOf (.lst l) = some l := rfl
theorem z_seqT : seqOf (.tup l) = some l := rfl
theorem z_forOnL {G : DG} {tb : DS} {Dd : DEnds} : forOn G tb Dd env (.lst l) n = forL G tb Dd l env n := rfl
theorem z_forOnT {G : DG} {tb : DS} {Dd : DEnds} : forOn G tb Dd env (.tup l) n = forL G tb Dd l env n := rfl
theorem z_gN {ii : Nat} {Q : DEnv → Prop} : dgN ii a env Q = Q (env.set ii (.sh a)) := rfl
theorem z_gT {kk : Nat} {gs : DGs} {Q : DEnv → Prop} : dgT kk gs (.tup l) env Q = (l.length = kk ∧ gs l env Q) := rfl
theorem z_gC {G : DG} {gs : DGs} {Q : DEnv → Prop} : dgCons G gs (a :: l) env Q = G a env (fun env' => gs l env' Q) := rfl
theorem z_gE {Q : DEnv → Prop} : dgNil [] env Q = Q env := rfl
theorem z_eq : fEq k a b R = ((plain 30 a = true ∧ plain 30 b = true) ∧ R (.bl (deq a b == k))) := rfl
end
end DL
namespace DL
open PySem L2 PyProof.Rows
/-! ### ifs upon known forms -/
theorem if_d {c : Prop} [Decidable c] {A B : Prop} (h1 : c → A) (h2 : ¬ c → B) : if decide c = true then A else B := by
  by_cases h : c
  · rw [if_pos (decide_eq_true h)]; exact h1 h
  · rw [if_neg (by simpa using h)]; exact h2 h
theorem pl_int {k : Nat} {i : Int} : plain k (.int i) = true := by cases k <;> rfl
theorem dq_int {i j : Int} : (deq (.int i) (.int j) == true) = decide (i = j) := by
  show ((i == j) == true) = decide (i = j)
  by_cases h : i = j <;> simp [h]
theorem dn_int {i j : Int} : (deq (.int i) (.int j) == false) = decide (i ≠ j) := by
  show ((i == j) == false) = decide (i ≠ j)
  by_cases h : i = j <;> simp [h]
theorem if_eqI {i j : Int} {A B : Prop} (h1 : i = j → A) (h2 : i ≠ j → B) : (plain 30 (.int i) = true ∧ plain 30 (.int j) = true) ∧ if (deq (.int i) (.int j) == true) = true then A else B := by
  refine ⟨⟨pl_int, pl_int⟩, ?_⟩
  rw [dq_int]
  exact if_d h1 h2
theorem if_neI {i j : Int} {A B : Prop} (h1 : i ≠ j → A) (h2 : i = j → B) : (plain 30 (.int i) = true ∧ plain 30 (.int j) = true) ∧ if (deq (.int i) (.int j) == false) = true then A else B := by
  refine ⟨⟨pl_int, pl_int⟩, ?_⟩
  rw [dn_int]
  refine if_d h1 fun h => h2 ?_
  omega
theorem if_tt {A B : Prop} (h : A) : if true = true then A else B := by rw [if_pos rfl]; exact h
theorem if_ff {A B : Prop} (h : B) : if false = true then A else B := by rw [if_neg Bool.false_ne_true]; exact h
theorem sz {n : Nat} (h : n ≤ 1000) : n ≤ sizeLine := Nat.le_trans h (by decide)
/-! ### bounds -/
def Bd (k : Nat) (i : Int) : Prop := i.natAbs < 2 ^ k
theorem bd_small {k : Nat} {i : Int} (m : Nat) (h : i.natAbs ≤ m) (hm : m < 2 ^ k) : Bd k i := Nat.lt_of_le_of_lt h hm
theorem mulok {i j : Int} {a b : Nat} (hi : Bd a i) (hj : Bd b j) (h : a + b ≤ 999998) : IntMulOk i j :=
  (wide_mul (a := a + 1) (b := b + 1) (Nat.lt_of_lt_of_le hi (Nat.pow_le_pow_right (by decide) (by omega))) (Nat.lt_of_lt_of_le hj (Nat.pow_le_pow_right (by decide) (by omega))) (by omega) (by omega) (by omega)).ok
theorem divok {i j : Int} {b : Nat} (h : 0 < j) (hj : Bd b j) (hb : b ≤ 8999) : CDivW i j :=
  wide_div (b := b + 1) h (Nat.lt_of_lt_of_le hj (Nat.pow_le_pow_right (by decide) (by omega))) (by omega) (by omega)
theorem Bd.mono {a b : Nat} {i : Int} (h : Bd a i) (hab : a ≤ b) : Bd b i := Nat.lt_of_lt_of_le h (Nat.pow_le_pow_right (by decide) hab)
theorem Bd.mul {a b : Nat} {i j : Int} (h : Bd a i) (h' : Bd b j) : Bd (a + b) (i * j) := wide_lt h h'
theorem Bd.add {a : Nat} {i j : Int} (h : Bd a i) (h' : Bd a j) : Bd (a + 1) (i + j) := by
  unfold Bd at *
  rw [Nat.pow_succ]
  omega
theorem Bd.sub {a : Nat} {i j : Int} (h : Bd a i) (h' : Bd a j) : Bd (a + 1) (i - j) := by
  unfold Bd at *
  rw [Nat.pow_succ]
  omega
theorem Bd.neg {a : Nat} {i : Int} (h : Bd a i) : Bd a (-i) := by
  unfold Bd at *
  omega
theorem cpow {i j : Int} (h1 : 0 ≤ j) (h2 : j ≤ 1000000) (h3 : i.natAbs < 2 ^ 64) : CPow i j := ⟨h1, h2, h3⟩
theorem at0 {x : D} {l : List D} : atI (x :: l) 0 = some x := by unfold atI ixN; simp
theorem at1 {x y : D} {l : List D} : atI (x :: y :: l) 1 = some y := by
  unfold atI ixN
  rw [if_pos (by decide), if_pos (by simp; omega)]
  rfl
theorem at2 {x y z : D} {l : List D} : atI (x :: y :: z :: l) 2 = some z := by
  unfold atI ixN
  rw [if_pos (by decide), if_pos (by simp; omega)]
  rfl
theorem atI_mem {l : List D} {v : Int} (h0 : 0 ≤ v) (h1 : v < l.length) : ∃ d, atI l v = some d ∧ d ∈ l := by
  unfold atI ixN
  rw [if_pos h0, if_pos h1]
  have hv : v.toNat < l.length := by omega
  exact ⟨l[v.toNat], by simp [hv], List.getElem_mem hv⟩
theorem ixo {l : List D} {i : Int} {d : D} {R : D → Prop} (e : atI l i = some d) (h : R d) : atOf R (atI l i) := by rw [e]; exact h
end DL

namespace DL
open PySem L2 PyProof.Rows
/-! ### the pen, over any law -/
abbrev penKvs (ca : Addr) (k l : Int) : List (Key × V) := [(Sum.inr "cells", .ref ca), (Sum.inr "begun", .int k), (Sum.inr "left", .int l)]
theorem k1 : ¬ (("cells" : Str) = "begun") := by decide +kernel
theorem k2 : ¬ (("cells" : Str) = "left") := by decide +kernel
theorem k3 : ¬ (("begun" : Str) = "left") := by decide +kernel
theorem key_ne {a b : Str} (h : ¬ a = b) : ¬ ((Sum.inr a : Key) = Sum.inr b) := fun z => h (Sum.inr.inj z)
theorem val_cells {ca : Addr} {k l : Int} : valV (penKvs ca k l) (Sum.inr "cells") = some (.ref ca) := by
  unfold valV penKvs
  rw [List.find?_cons_of_pos (by simp)]
  rfl
theorem val_begun {ca : Addr} {k l : Int} : valV (penKvs ca k l) (Sum.inr "begun") = some (.int k) := by
  unfold valV penKvs
  rw [List.find?_cons_of_neg (by simpa using key_ne k1), List.find?_cons_of_pos (by simp)]
  rfl
theorem val_left {ca : Addr} {k l : Int} : valV (penKvs ca k l) (Sum.inr "left") = some (.int l) := by
  unfold valV penKvs
  rw [List.find?_cons_of_neg (by simpa using key_ne k2), List.find?_cons_of_neg (by simpa using key_ne k3), List.find?_cons_of_pos (by simp)]
  rfl
theorem put_left {ca : Addr} {k l l' : Int} : putK (penKvs ca k l) (Sum.inr "left") (.int l') = penKvs ca k l' := by
  unfold putK penKvs
  rw [if_pos (by simp)]
  simp only [List.map_cons, List.map_nil, if_neg (key_ne k2), if_neg (key_ne k3), if_pos]
theorem put_begun {ca : Addr} {k l k' : Int} : putK (penKvs ca k l) (Sum.inr "begun") (.int k') = penKvs ca k' l := by
  have k3' : ¬ (("left" : Str) = "begun") := fun z => k3 z.symm
  unfold putK penKvs
  rw [if_pos (by simp)]
  simp only [List.map_cons, List.map_nil, if_neg (key_ne k1), if_neg (key_ne k3'), if_pos]
theorem get_cells {H : Hp} {p ca : Addr} {k l : Int} (h : H p = some (.dK (penKvs ca k l))) : DGet H p (.str "cells") (some (.ref ca)) := by rw [← val_cells]; exact DGet.k (k := Sum.inr "cells") h
theorem get_begun {H : Hp} {p ca : Addr} {k l : Int} (h : H p = some (.dK (penKvs ca k l))) : DGet H p (.str "begun") (some (.int k)) := by rw [← val_begun]; exact DGet.k (k := Sum.inr "begun") h
theorem get_left {H : Hp} {p ca : Addr} {k l : Int} (h : H p = some (.dK (penKvs ca k l))) : DGet H p (.str "left") (some (.int l)) := by rw [← val_left]; exact DGet.k (k := Sum.inr "left") h
theorem set_left {H : Hp} {p ca : Addr} {k l l' : Int} (h : H p = some (.dK (penKvs ca k l))) : DPut H p (.str "left") (.int l') (upd H p (.dK (penKvs ca k l'))) := by
  rw [← put_left (l := l)]
  exact DPut.k (k := Sum.inr "left") h (by show 3 < sizeLine; decide)
theorem set_begun {H : Hp} {p ca : Addr} {k l k' : Int} (h : H p = some (.dK (penKvs ca k l))) : DPut H p (.str "begun") (.int k') (upd H p (.dK (penKvs ca k' l))) := by
  rw [← put_begun (k := k)]
  exact DPut.k (k := Sum.inr "begun") h (by show 3 < sizeLine; decide)
/-- the pen turned -/
theorem pen_gone {Hs H : Hp} {p ca : Addr} {ns : List Int} {k k' n' : Nat} {l l' : Int} (sub : Same Hs H) (h : H p = some (.dK (penKvs ca k l))) (hs : Hs p = none) (hc : Hs ca = some (.lst (ns.map V.int))) (hn : ns.length ≤ 63) (hk : k' ≤ n') (hl : 0 ≤ l') :
    Gone (some p) n' Hs H Hs (upd H p (.dK (penKvs ca (k' : Int) l'))) := by
  refine ⟨⟨fun _ _ e => e, fun a o ha e => ?_, fun a ha => ?_, fun _ _ e => e, fun q cq r e => ?_⟩, fun a o e => ?_, fun q hq => ?_⟩
  · rw [upd_ne (by rintro rfl; exact ha (by simp))]; exact e
  · by_cases z : a = p
    · subst z; rw [upd_same]; simp
    · rw [upd_ne z]; exact ha
  · by_cases z : q = p
    · subst z
      rw [h] at e
      cases e
      exact ⟨_, upd_same⟩
    · exact ⟨r, by rw [upd_ne z]; exact e⟩
  · rw [upd_ne (by rintro rfl; rw [hs] at e; cases e)]; exact sub a o e
  · cases hq
    exact ⟨ca, ns, k', l', upd_same, hs, hc, hn, hk, hl⟩
def LIM : Nat := 2 ^ 60
/-- a draw: any number below many -/
def sp__law_draw (p : Addr) : DSp := fun ds n R _ => ∃ m, ds = [.ref p, .int m] ∧ (0 < m ∧ Bd 200 m ∧ n < LIM) ∧ ∀ v, 0 ≤ v → v < m → R (.int v) (n + 1)
theorem mul1 {k : Int} {c : Int} (hc : Bd 40 c) (h0 : 0 ≤ k) (hk : k < 1152921504606846976) : IntMulOk c k := mulok hc (bd_small (k := 61) 1152921504606846976 (by omega) (by decide)) (by decide)
theorem mod_bd {x c : Int} (hc : 0 < c) : 0 ≤ x % c ∧ x % c < c := ⟨Int.emod_nonneg _ (by omega), Int.emod_lt_of_pos _ hc⟩
/-- the pen made: a law's first row -/
def spPen (K : PySem.W.Frag) : Sp := fun vs H Q _ => ∃ (a : Addr) (ns : List Int), vs = [.ref a] ∧ SqL K H a (ns.map V.int) ∧ ns.length ≤ 63 ∧
  ∀ p ca H', H p = none → Same H H' → H' p = some (.dK (penKvs ca 0 0)) → H' ca = some (.lst (ns.map V.int)) → Q (.ref p) H'
theorem cut63 {ns : List Int} (h : ns.length ≤ 63) : cutV (ns.map V.int) none (some 63) = ns.map V.int := by
  unfold cutV HT.sIx
  have : min (Int.toNat 63) (ns.map V.int).length = (ns.map V.int).length := by
    rw [List.length_map]
    exact Nat.min_eq_right h
  simp only [List.drop_zero, Nat.sub_zero]
  rw [if_neg (by decide), this, List.take_length]
end DL
namespace DL
open PySem L2 PyProof.Rows
/-! ### a law: the pen is made, the rest over plain data -/
def spLaw (K : PySem.W.Frag) : Sp := fun vs H Q _ => ∃ (a : Addr) (ns : List Int), vs = [.ref a] ∧ SqL K H a (ns.map V.int) ∧ ns.length ≤ 63 ∧ ∀ H', Q (.bl true) H'
def lawEnds : DEnds := { nx := fun _ _ => False, rt := fun d _ => d = .bl true, ex := fun _ _ _ => False }
def lawEnv (N' : List Str) (ns : List Int) (p : Addr) : DEnv := .sh (.scr ns) :: .sh (.ref p) :: List.replicate N'.length .un
theorem pss_ex {X : Cx} {sts : List Stmt} {α : Type} {T : α → TS} (h : ∀ a, PSs X sts (T a)) : PSs X sts (fun D σ H => ∃ a, T a D σ H) := ⟨fun pins s σ H D I ⟨a, q⟩ => (h a).run pins s σ H D I q⟩
section
variable {P : Program} {w : World} {K : PySem.W.Frag} {mg : Str → Option Value} {base : Heap} {x qual : Str} {params : Arguments} {body rest : List Stmt} {st0 : Stmt} {scope : Scope} {kws : List (Str × V)} {f : Addr} {fd : FuncData} {N' : List Str} {k : Nat}
theorem DI.law {N' : List Str} {a p ca : Addr} {ns : List Int} {H1 : Hp} (hS : SqL K H1 a (ns.map V.int)) (hn : ns.length ≤ 63) (h1 : H1 p = some (.dK (penKvs ca 0 0))) (h2 : H1 ca = some (.lst (ns.map V.int))) :
    DI K ⟨some p, [p], (fun b => if b = p then none else H1 b), H1, fun _ _ _ _ => False⟩ (lawEnv N' ns p) 0 (some (.ref a) :: some (.ref p) :: List.replicate N'.length none) (fun b => if b = p then none else H1 b) H1 := by
  have hcp : ca ≠ p := by rintro rfl; rw [h1] at h2; cases h2
  refine ⟨fun b o e => ?_, fun q hq => ?_, Grow.refl, by simp [lawEnv], fun i sl e => ?_, fun i j b si sj ei ej oi oj => ?_⟩
  · by_cases z : b = p
    · subst z; simp at e
    · simp [z] at e; exact e
  · cases hq
    exact ⟨by simp, ca, ns, 0, 0, h1, by simp, by simp [hcp]; exact h2, hn, Nat.le_refl _, Int.le_refl _⟩
  · match i with
    | 0 =>
      simp [lawEnv] at e
      subst e
      refine ⟨.ref a, rfl, a, rfl, ?_⟩
      rcases hS with (h | ⟨o, h⟩) | h
      · have hap : a ≠ p := by rintro rfl; rw [h1] at h; cases h
        exact Or.inl (Or.inl (by simp [hap]; exact h))
      · have hap : a ≠ p := by rintro rfl; rw [h1] at h; cases h
        exact Or.inl (Or.inr ⟨o, by simp [hap]; exact h⟩)
      · exact Or.inr h
    | 1 =>
      simp [lawEnv] at e
      subst e
      exact ⟨.ref p, rfl, rfl⟩
    | i + 2 =>
      have e' : (List.replicate N'.length Sl.un)[i]? = some sl := by simpa [lawEnv] using e
      obtain ⟨_, e2⟩ := List.getElem?_eq_some_iff.mp e'
      rw [List.getElem_replicate] at e2
      subst e2
      trivial
  · have no : ∀ (m : Nat) (sl : Sl) (o : Option (Option V)), (lawEnv N' ns p)[m]? = some sl → ownA sl o ≠ some b := fun m sl o e z => by
      match m with
      | 0 => simp [lawEnv] at e; subst e; simp [ownA] at z
      | 1 => simp [lawEnv] at e; subst e; simp [ownA] at z
      | m + 2 =>
        have e' : (List.replicate N'.length Sl.un)[m]? = some sl := by simpa [lawEnv] using e
        obtain ⟨_, e2⟩ := List.getElem?_eq_some_iff.mp e'
        rw [List.getElem_replicate] at e2
        subst e2
        simp [ownA] at z
    exact absurd oi (no i si _ ei)
theorem dlaw {t : Addr → DS} (F : FunD K x qual params body scope [] kws f fd) (S : FnScope ("_law_script" :: "_law_pen_here" :: N') ["_law_script"] scope) (hb : body = st0 :: rest)
    (h0 : ∀ (cdv : Value) (A : Around) (outer : List Env) (s : Shared) (H : Hp) (E : XK), Room k (A.deeper (envOfC qual scope s.heap.objs.size f cdv)) →
      PS (cxOf CX0 P w K mg base ("_law_script" :: "_law_pen_here" :: N') qual scope f cdv A outer s H E).nox st0 (tAsg (tCall (spPen K) [] E0 (tCons (tVar 0) tNil)) (gName 1)))
    (der : ∀ (p : Addr) (cdv : Value) (A : Around) (outer : List Env) (s : Shared) (H : Hp) (E : XK), Room k (A.deeper (envOfC qual scope s.heap.objs.size f cdv)) → ∀ (mu : List Addr) (Hs0 H0 : Hp),
      PSs (cxOf CX0 P w K mg base ("_law_script" :: "_law_pen_here" :: N') qual scope f cdv A outer s H E).nox rest (liftS (cxOf CX0 P w K mg base ("_law_script" :: "_law_pen_here" :: N') qual scope f cdv A outer s H E).nox.K ⟨some p, mu, Hs0, H0, fun _ _ _ _ => False⟩ (t p)))
    (hp : ∀ p ns, ns.length ≤ 63 → t p lawEnds (lawEnv N' ns p) 0) : FnOk P w K mg base CX0 (k + 1) f fd ["_law_script"] (spLaw K) := by
  subst hb
  refine F.ok S (fun vs H Q E h => ?_) (fun cdv A outer s H vs Q E hr h => ?_)
  · obtain ⟨a, ns, rfl, _⟩ := h
    rfl
  · obtain ⟨a, ns, rfl, hS, hn, kq⟩ := h
    refine ⟨_, PSs.nox (pss_cons (h0 cdv A outer s H E hr) (pss_ex fun q : Addr × List Addr × Hp × Hp => der q.1 cdv A outer s H E hr q.2.1 q.2.2.1 q.2.2.2)), ?_⟩
    refine ⟨_, rfl, a, ns, rfl, hS, hn, fun p ca H1 hpn same h1 h2 => ?_⟩
    have hS1 := same.seq hS
    refine ⟨(p, [p], (fun b => if b = p then none else H1 b), H1), (fun b => if b = p then none else H1 b), lawEnv N' ns p, 0, lawEnds, ?_, hp p ns hn, ?_⟩
    · have e : (L2.start ("_law_script" :: "_law_pen_here" :: N') [V.ref a]).set 1 (some (V.ref p)) = some (.ref a) :: some (.ref p) :: List.replicate N'.length none := by
        simp [L2.start, List.replicate_succ]
      show DI K _ _ 0 ((L2.start ("_law_script" :: "_law_pen_here" :: N') [V.ref a]).set 1 (some (V.ref p))) _ H1
      rw [e]
      exact DI.law hS1 hn h1 h2
    · refine ⟨fun _ _ _ _ _ _ _ z => z.elim, fun v d env n' σ Hs' H' s' I' r' q => ?_, fun _ _ _ _ _ _ _ z => z.elim, fun _ _ _ _ _ _ _ z => z.elim, fun _ _ _ _ _ _ _ _ _ _ _ z => z.elim⟩
      have q' : d = .bl true := q
      subst q'
      have r2 : v = .bl true := r'
      subst r2
      exact kq H'
end
end DL
namespace DL
open PySem L2 PyProof.Rows
theorem lim : 1000000 ≤ LIM := by decide
/-- a loop by what holds of the rest, the slots, the draws -/
theorem forL_ind {g : DG} {tb : DS} {Dd : DEnds} (Pv : List D → DEnv → Nat → Prop) (step : ∀ d l env n, Pv (d :: l) env n → (∀ env' n', Pv l env' n' → forL g tb Dd l env' n') → forL g tb Dd (d :: l) env n) (done : ∀ env n, Pv [] env n → Dd.nx env n) :
    ∀ l env n, Pv l env n → forL g tb Dd l env n := by
  intro l
  induction l with
  | nil => exact fun env n h => done env n h
  | cons d l ih => exact fun env n h => step d l env n h ih
theorem rngD_length {lo : Int} {m : Nat} : (rngD lo m).length = m := by simp [rngD]
theorem deq_t4 {a b c d : Int} : deq (.tup [.int a, .int b, .int c, .int d]) (.tup [.int a, .int b, .int c, .int d]) = true := by simp [deq, deqAll]
end DL

namespace DL
open PySem L2 PyProof.Rows
/-! ### facts of the written part, by computation -/
def isCB (K : PySem.W.Frag) (C : Addr) : Bool := decide (PySem.W.findIn K (.ref C) "__class__" = some (some (.builtin "object.__class__"))) && (decide (PySem.W.specialIn K (.builtin "object.__class__") "__get__" = some (some (.builtin "getset_descriptor.__get__"))) &&
  (decide (PySem.W.takesIn K (.builtin "object.__class__") = some true) && decide (PySem.W.mroIn K C (.type "object") = some true)))
theorem isCB_ok {K : PySem.W.Frag} {C : Addr} (c : Cls K C) (h : isCB K C = true) : IsC K C := by
  unfold isCB at h
  rw [Bool.and_eq_true, Bool.and_eq_true, Bool.and_eq_true] at h
  exact ⟨c, of_decide_eq_true h.1, of_decide_eq_true h.2.1, of_decide_eq_true h.2.2.1, of_decide_eq_true h.2.2.2⟩
def refOrNone : Option (Option Value) → Bool
  | some none => true
  | some (some (.ref _)) => true
  | _ => false
theorem refOrNone_ok {o : Option (Option Value)} (h : refOrNone o = true) : ∃ rc, o = some rc ∧ (rc = none ∨ ∃ g : Addr, rc = some (.ref g)) := by
  unfold refOrNone at h
  split at h
  · exact ⟨none, rfl, Or.inl rfl⟩
  · exact ⟨_, rfl, Or.inr ⟨_, rfl⟩⟩
  · cases h
def opCB (K : PySem.W.Frag) (C : Addr) (op : Operator) : Bool := PySem.W.selfFirst K C && (refOrNone (PySem.W.findIn K (.ref C) (dunderR op.info.2)) && ((PySem.W.findIn K (.type "int") (PySem.dunder op.info.2)).isSome && ((PySem.W.findIn K (.type "int") (dunderR op.info.2)).isSome && decide (PySem.W.subIn K (.type "int") (.ref C) = some false))))
theorem opCB_ok {K : PySem.W.Frag} {C : Addr} {op : Operator} (h : opCB K C op = true) : OpC K C op := by
  unfold opCB at h
  rw [Bool.and_eq_true, Bool.and_eq_true, Bool.and_eq_true, Bool.and_eq_true] at h
  obtain ⟨fo, h1⟩ := Option.isSome_iff_exists.mp h.2.2.1
  obtain ⟨ro, h2⟩ := Option.isSome_iff_exists.mp h.2.2.2.1
  exact ⟨h.1, refOrNone_ok h.2.1, ⟨fo, ro, h1, h2⟩, of_decide_eq_true h.2.2.2.2⟩
def kitB (K : PySem.W.Frag) (t u : Value) (b : Bool) : Bool := decide (PySem.W.kitOne K t u = some b)
theorem kitB_ok {K : PySem.W.Frag} {t u : Value} {b : Bool} (h : kitB K t u b = true) : PySem.W.kitOne K t u = some b := of_decide_eq_true h
end DL

namespace DL
open PySem L2 PyProof.Rows

/-! ### slots forgotten -/
theorem DI.unset {K : PySem.W.Frag} {B : Bs} {env : DEnv} {n : Nat} {σ : L2.St} {Hs H : Hp} {i : Nat} (I : DI K B env n σ Hs H) : DI K B (env.set i .un) n (σ.set i none) Hs H := by
  refine ⟨I.sub, I.pen, I.gr, by simp [I.len], fun j sl e => ?_, fun j k a sj sk ej ek oj ok => ?_⟩
  · by_cases h : i = j
    · subst h
      have hi : i < env.length := by
        have := (List.getElem?_eq_some_iff.mp e).1
        simpa using this
      rw [List.getElem?_set_self hi] at e
      cases e
      trivial
    · rw [List.getElem?_set_ne h] at e ⊢
      exact I.ok j sl e
  · have key : ∀ (m : Nat) (sl : Sl), (env.set i .un)[m]? = some sl → ownA sl (σ.set i none)[m]? = some a → env[m]? = some sl ∧ ownA sl σ[m]? = some a := fun m sl e o => by
      by_cases h : i = m
      · subst h
        have hi : i < env.length := by
          have := (List.getElem?_eq_some_iff.mp e).1
          simpa using this
        rw [List.getElem?_set_self hi] at e
        cases e
        simp [ownA] at o
      · rw [List.getElem?_set_ne h] at e o
        exact ⟨e, o⟩
    obtain ⟨a1, b1⟩ := key j sj ej oj
    obtain ⟨a2, b2⟩ := key k sk ek ok
    exact I.dis j k a sj sk a1 a2 b1 b2
def wipeD (env : DEnv) : List Nat → DEnv
  | [] => env
  | v :: ws => (wipeD env ws).set v .un
theorem DI.wipe {K : PySem.W.Frag} {B : Bs} {env : DEnv} {n : Nat} {σ : L2.St} {Hs H : Hp} (I : DI K B env n σ Hs H) : ∀ ws : List Nat, DI K B (wipeD env ws) n (L2.wipe σ ws) Hs H
  | [] => I
  | v :: ws => (DI.wipe I ws).unset
theorem wipe_wipe {σ : L2.St} {ws : List Nat} : L2.wipe (L2.wipe σ ws) ws = L2.wipe σ ws := by
  apply List.ext_getElem?
  intro j
  rw [wipe_at, wipe_at, wipe_length]
  by_cases hj : j ∈ ws <;> simp [hj]
theorem Gone.keepL {pn : Option Addr} {n n' : Nat} {Hs H Hs' H' : Hp} {a : Addr} {xs : List V} (g : Gone pn n' Hs H Hs' H') (pen : ∀ p, pn = some p → PenOk Hs H p n) (e : H a = some (.lst xs)) : H' a = some (.lst xs) := by
  refine g.gr.ex a _ ?_ e
  intro hm
  cases hp : pn with
  | none => rw [hp] at hm; simp at hm
  | some p =>
    rw [hp] at hm
    have e' : a = p := by simpa using hm
    exact pen_ne (pen p hp) e (fun _ z => nomatch z) e'
/-- a list of one's own, younger than H1, is written -/
theorem Gone.mutL {pn : Option Addr} {n : Nat} {Hs1 H1 Hs H : Hp} {a : Addr} {xs ys : List V} (g : Gone pn n Hs1 H1 Hs H) (h1 : H1 a = none) (hs : Hs a = none) (e : H a = some (.lst xs)) : Gone pn n Hs1 H1 Hs (upd H a (.lst ys)) := by
  refine ⟨⟨g.gr.sh, fun b o hb eb => ?_, fun b hb => ?_, g.gr.fr, fun q ca r eq => let ⟨r1, e1⟩ := g.gr.pc q ca r eq; ⟨r1, by rw [upd_ne (by rintro rfl; rw [e] at e1; cases e1)]; exact e1⟩⟩, fun b o eb => ?_, fun p hp => ?_⟩
  · rw [upd_ne (ne_of_none eb h1)]; exact g.gr.ex b o hb eb
  · by_cases z : b = a
    · subst z; rw [upd_same]; simp
    · rw [upd_ne z]; exact g.gr.al b hb
  · rw [upd_ne (by rintro rfl; rw [hs] at eb; cases eb)]; exact g.sub b o eb
  · obtain ⟨ca, ns, k, l, q1, q2, q3, q4⟩ := g.pen p hp
    exact ⟨ca, ns, k, l, by rw [upd_ne (by rintro rfl; rw [e] at q1; cases q1)]; exact q1, q2, q3, q4⟩

/-! ### list comprehensions -/
def lcL (g : DG) (tt : DTT) (te : DT) (env : DEnv) (R : List D → Nat → Prop) : List D → List D → Nat → Prop
  | [], acc, n => R acc n
  | d :: l, acc, n => g d env fun env' => tt env' n (fun b n1 => if b = true then te env' n1 (fun y n2 => acc.length < sizeLine ∧ lcL g tt te env R l (acc ++ [y]) n2) noX else lcL g tt te env R l acc n1) noX
theorem cox_no {K : PySem.W.Frag} {B : Bs} {σ : L2.St} {Hs H : Hp} : CoX K B σ Hs H noX := fun _ _ _ _ _ _ _ _ z => z.elim
section
variable {X : Cx} {B : Bs}
theorem lc_lift {K : PySem.W.Frag} {ws : List Nat} {J : It} {l : List D} {vs : List V} {g : DG} {tt : DTT} {te : DT} {env : DEnv} {n : Nat} {σ : L2.St} {Hs H : Hp} {R : List D → Nat → Prop} {Q : VK} (I : DI K B env n σ Hs H) (hr : Reps K Hs l vs)
    (k : ∀ a vs ds n' Hs' H', Gone B.pn n' Hs H Hs' H' → H a = none → Hs' a = none → H' a = some (.lst vs) → Reps K Hs' ds vs → R ds n' → Q (.ref a) H')
    (hstop : ∀ i Hs' H', Same Hs Hs' → Same Hs' H' → vs.length ≤ i → J.stop i H') (hgo : ∀ i Hs' H', Same Hs Hs' → Same Hs' H' → i < vs.length → J.go i H')
    (hy : ∀ i Hs' H' x H2, Same Hs Hs' → Same Hs' H' → i < vs.length → J.yld i H' x H2 → H2 = H' ∧ vs[i]? = some x) (h : lcL g tt te (wipeD env ws) R l [] n) :
    ∀ D, H D = none → ∃ W : Nat → Nat → Hp → Prop, (∃ m, W 0 m (upd H D (.lst []))) ∧ ∀ i m H, W i m H →
      (J.stop i H ∧ Q (.ref D) H) ∨ (J.go i H ∧ ∃ Nx : Hp → Prop, (∀ H', Nx H' → ∃ m', m' < m ∧ W (i + 1) m' H') ∧ ∀ x H', J.yld i H x H' → liftG K B ws g x (L2.wipe σ ws) H' fun σ2 H2 => L2.wipe σ2 ws = L2.wipe σ ws ∧ liftT K B tt σ2 H2 fun b H3 =>
        if b = true then lift K B te σ2 H3 fun y H4 => ∃ acc, H4 D = some (.lst acc) ∧ acc.length < sizeLine ∧ Nx (upd H4 D (.lst (acc ++ [y]))) else Nx H3) := by
  intro D hD
  have hlen := hr.length
  have g0 : Gone B.pn n Hs H Hs (upd H D (.lst [])) := Gone.own I.sub hD I.pn
  have hsD : Hs D = none := I.sub.free hD
  refine ⟨fun i m H' => m = vs.length - i ∧ i ≤ vs.length ∧ ∃ Hs' n' acc vacc, Gone B.pn n' Hs H Hs' H' ∧ Hs' D = none ∧ H' D = some (.lst vacc) ∧ Reps K Hs' acc vacc ∧ lcL g tt te (wipeD env ws) R (l.drop i) acc n',
    ⟨_, rfl, Nat.zero_le _, Hs, n, [], [], g0, hsD, upd_same, rfl, h⟩, ?_⟩
  rintro i m H1 ⟨rfl, hi, Hs1, n1, acc, vacc, g1, hs1, hd1, r1, h1⟩
  by_cases hlt : i < vs.length
  · refine Or.inr ⟨hgo i Hs1 H1 g1.gr.sh g1.sub hlt, fun H' => ∃ Hs' n' acc vacc, Gone B.pn n' Hs H Hs' H' ∧ Hs' D = none ∧ H' D = some (.lst vacc) ∧ Reps K Hs' acc vacc ∧ lcL g tt te (wipeD env ws) R (l.drop (i + 1)) acc n', fun H' q => ⟨vs.length - (i + 1), by omega, rfl, hlt, q⟩, fun x H' y => ?_⟩
    obtain ⟨e, yx⟩ := hy i Hs1 H1 x H' g1.gr.sh g1.sub hlt y
    subst e
    obtain ⟨d, hd, rd⟩ := hr.getV yx
    have hdrop : l.drop i = d :: l.drop (i + 1) := by
      obtain ⟨hil, e⟩ := List.getElem?_eq_some_iff.mp hd
      rw [List.drop_eq_getElem_cons hil, e]
    rw [hdrop] at h1
    refine ⟨Hs1, wipeD env ws, n1, d, _, (I.call g1).wipe ws, rd.mono g1.gr.sh, h1, fun env2 σ2 I2 hw q => ⟨hw.trans wipe_wipe, ?_⟩⟩
    refine ⟨Hs1, env2, n1, _, noX, I2, q, fun b n2 Hs2 H2 g2 q2 => ?_, cox_no⟩
    have fr2 : Hs2 D = none := g2.gr.fr D (by rw [hd1]; simp) hs1
    cases b with
    | true =>
      refine ⟨Hs2, env2, n2, _, noX, I2.call g2, q2, fun y dy n3 Hs3 H3 g3 r3 q3 => ?_, cox_no⟩
      have d2 := g2.keepL g1.pen hd1
      have d3 := g3.keepL g2.pen d2
      have fr3 : Hs3 D = none := g3.gr.fr D (by rw [d2]; simp) fr2
      refine ⟨vacc, d3, by rw [← r1.length]; exact q3.1, Hs3, n3, acc ++ [dy], vacc ++ [y], ((g1.trans g2).trans g3).mutL hD fr3 d3, fr3, upd_same, ?_, q3.2⟩
      exact ((r1.mono g2.gr.sh).mono g3.gr.sh).snoc r3
    | false => exact ⟨Hs2, n2, acc, vacc, g1.trans g2, fr2, g2.keepL g1.pen hd1, r1.mono g2.gr.sh, q2⟩
  · have e : i = vs.length := by omega
    subst e
    refine Or.inl ⟨hstop _ Hs1 H1 g1.gr.sh g1.sub (Nat.le_refl _), ?_⟩
    rw [← hlen, List.drop_length] at h1
    exact k D vacc acc n1 Hs1 H1 g1 hD hs1 hd1 r1 h1
def lcOn (g : DG) (tt : DTT) (te : DT) (env : DEnv) (R : List D → Nat → Prop) : DR := fun d n => match seqOf d with
  | some l => lcL g tt te env R l [] n
  | none => False
/-- [e for target in seq if test] -/
def fLc (ti : DT) (g : DG) (tt : DTT) (te : DT) (ws : List Nat) : DTA := fun env n R Rx => ti env n (lcOn g tt te (wipeD env ws) R) Rx
theorem lc_seq {g : DG} {tt : DTT} {ti te : DT} {ws : List Nat} {σ : L2.St} {H : Hp} {Q : VK} (h : liftF X.K B (fLc ti g tt te ws) σ H Q) : tLc (iSeq X.K (lift X.K B ti)) (liftG X.K B ws g) (liftT X.K B tt) (lift X.K B te) ws σ H Q := by
  obtain ⟨Hs, env, n, R, Rx, I, ht, k, kx⟩ := h
  refine ⟨Hs, env, n, _, Rx, I, ht, fun v d n1 Hs1 H1 gg r q => ?_, kx⟩
  have k1 : ∀ a vs ds n' Hs' H', Gone B.pn n' Hs1 H1 Hs' H' → H1 a = none → Hs' a = none → H' a = some (.lst vs) → Reps X.K Hs' ds vs → R ds n' → Q (.ref a) H' := fun a vs ds n' Hs' H' g' ha => k a vs ds n' Hs' H' (gg.trans g') (by
    cases e : H a with
    | none => rfl
    | some o => exact absurd ha (gg.gr.al a (by rw [e]; simp)))
  unfold lcOn at q
  cases d <;> first | exact False.elim q | skip
  · obtain ⟨a, vs, rfl, h2, h3⟩ := r
    refine ⟨a, rfl, Or.inr ⟨⟨vs, same_t gg.sub h2⟩, ?_⟩⟩
    exact lc_lift (J := Itt X.K a) (I.call gg) h3 k1 (fun i Hs' H' s s' hi => ⟨vs, same_t s' (same_t s h2), hi⟩) (fun i Hs' H' s s' hi => ⟨vs, vs[i], same_t s' (same_t s h2), by simp [hi]⟩) (fun i Hs' H' x H2 s s' _ y => ⟨y.1, y.2 vs (same_t s' (same_t s h2))⟩) q
  · obtain ⟨a, vs, rfl, h2, h3⟩ := r
    refine ⟨a, rfl, Or.inl ⟨⟨vs, SqL.of (gg.sub _ _ h2)⟩, ?_⟩⟩
    exact lc_lift (J := Itl X.K a) (I.call gg) h3 k1 (fun i Hs' H' s s' hi => ⟨vs, SqL.of (s' _ _ (s _ _ h2)), hi⟩) (fun i Hs' H' s s' hi => ⟨vs, vs[i], SqL.of (s' _ _ (s _ _ h2)), by simp [hi]⟩) (fun i Hs' H' x H2 s s' _ y => ⟨y.1, y.2 vs (SqL.of (s' _ _ (s _ _ h2)))⟩) q
/-- over range(j) -/
def fLcR (tA : DTA) (g : DG) (tt : DTT) (te : DT) (ws : List Nat) : DTA := fun env n R Rx => tA env n (fun ds n1 => onInt1 (fun j => (-(2 ^ 62) ≤ j ∧ j < 2 ^ 62) ∧ lcL g tt te (wipeD env ws) R (rngD 0 j.toNat) [] n1) ds) Rx
theorem lc_rng {g : DG} {tt : DTT} {tA : DTA} {te : DT} {ws : List Nat} {σ : L2.St} {H : Hp} {Q : VK} (h : liftF X.K B (fLcR tA g tt te ws) σ H Q) : tLc (iRng1 (liftA X.K B tA)) (liftG X.K B ws g) (liftT X.K B tt) (lift X.K B te) ws σ H Q := by
  obtain ⟨Hs, env, n, R, Rx, I, ht, k, kx⟩ := h
  refine ⟨Hs, env, n, _, Rx, I, ht, fun vs ds n1 Hs1 H1 gg r q => ?_, kx⟩
  obtain ⟨j, rfl, q⟩ := onInt1_of q
  obtain ⟨v, rfl, r1⟩ := reps1 r
  have r1' : v = .int j := r1
  subst r1'
  refine ⟨j, rfl, q.1.1, q.1.2, ?_⟩
  refine lc_lift (J := Itr 0 j.toNat) (I.call gg) reps_rng (fun a vs ds n' Hs' H' g' ha => k a vs ds n' Hs' H' (gg.trans g') (by
    cases e : H a with
    | none => rfl
    | some o => exact absurd ha (gg.gr.al a (by rw [e]; simp)))) (fun i Hs' H' _ _ hi => ?_) (fun i Hs' H' _ _ hi => ?_) (fun i Hs' H' x H2 _ _ hi y => ?_) q.2
  · show j.toNat ≤ i
    simpa using hi
  · show i < j.toNat
    simpa using hi
  · obtain ⟨e, y⟩ := y
    refine ⟨e, ?_⟩
    have hm : i < j.toNat := by simpa using hi
    rw [y, List.getElem?_map, List.getElem?_range hm]
    rfl
variable {e : Expr} {st : Stmt}
theorem df_of {f : DTA} {t : TE} (h : PE X e t) (i : ∀ σ H Q, liftF X.K B f σ H Q → t σ H Q) : PE X e (liftF X.K B f) := pe_imp h i
/-- as a shared list -/
def fSh (f : DTA) : DT := fun env n R Rx => f env n (fun ds n1 => R (.lst ds) n1) Rx
theorem de_sh {f : DTA} (h : PE X e (liftF X.K B f)) : PE X e (lift X.K B (fSh f)) := DF.shr h
/-- y = a new list: shared from the start -/
theorem tasg_imp {te te' : TE} {g : TG} (i : ∀ σ H Q, te' σ H Q → te σ H Q) (h : PS X st (tAsg te g)) : PS X st (tAsg te' g) := ps_imp h fun D σ H q => i σ H _ q
theorem sh_lift {f : DTA} {σ : L2.St} {H : Hp} {Q : VK} (h : lift X.K B (fSh f) σ H Q) : liftF X.K B f σ H Q := by
  obtain ⟨Hs, env, n, R, Rx, I, ht, k, kx⟩ := h
  refine ⟨Hs, env, n, _, Rx, I, ht, fun a vs ds n1 Hs1 H1 g1 ha hs h' r1 h1 => ?_, kx⟩
  have ss : Same Hs1 (upd Hs1 a (.lst vs)) := fun b o e => by rw [upd_ne (ne_of_none e hs)]; exact e
  refine k (.ref a) (.lst ds) n1 (upd Hs1 a (.lst vs)) H1 ⟨⟨fun b o e => ss b o (g1.gr.sh b o e), g1.gr.ex, g1.gr.al, fun b hb hz => ?_, g1.gr.pc⟩, fun b o e => ?_, fun p hp => ?_⟩ ⟨a, vs, rfl, upd_same, r1.mono ss⟩ h1
  · rw [upd_ne (by rintro rfl; exact hb ha)]
    exact g1.gr.fr b hb hz
  · by_cases hb : b = a
    · subst hb; rw [upd_same] at e; cases e; exact h'
    · rw [upd_ne hb] at e; exact g1.sub b o e
  · obtain ⟨ca, ns, kk, l, h1, h2, h3, h4⟩ := g1.pen p hp
    refine ⟨ca, ns, kk, l, h1, ?_, ss _ _ h3, h4⟩
    rw [upd_ne (by rintro rfl; rw [h'] at h1; cases h1)]
    exact h2
theorem ds_setF (i : Nat) {f : DTA} {t : TE} (h : PS X st (tAsg t (gName i))) (j : ∀ σ H Q, liftF X.K B f σ H Q → t σ H Q) : PS X st (liftS X.K B (dSet i (fSh f))) := ds_set i (tasg_imp (fun σ H Q q => j σ H Q (sh_lift q)) h)
def dYes : DTT := fun _ n R _ => R true n
theorem pts_imp {ifs : List Expr} {t t' : TT} (h : PTs X ifs t) (i : ∀ σ H Q, t' σ H Q → t σ H Q) : PTs X ifs t' := ⟨fun pins s σ H Q I q => h.run pins s σ H Q I (i σ H Q q)⟩
theorem dpts_nil : PTs X [] (liftT X.K B dYes) := pts_imp pts_nil fun σ H Q ⟨Hs, env, n, R, Rx, I, ht, k, kx⟩ => k true n Hs H (Gone.refl I.sub I.pn) ht

/-! ### lists of one's own -/
theorem DI.own {K : PySem.W.Frag} {env : DEnv} {n : Nat} {σ : L2.St} {Hs H : Hp} {i : Nat} {a : Addr} {l : List D} {vs : List V} (I : DI K B env n σ Hs H) (hs : Hs a = none) (h0 : B.H0 a = none) (ha : H a = some (.lst vs)) (r : Reps K Hs l vs)
    (nw : ∀ (j : Nat) (sl : Sl), env[j]? = some sl → ownA sl σ[j]? ≠ some a) : DI K B (env.set i (.ow l)) n (σ.set i (some (.ref a))) Hs H := by
  refine ⟨I.sub, I.pen, I.gr, by simp [I.len], fun j sl e => ?_, fun j k b sj sk ej ek oj ok => ?_⟩
  · by_cases h : i = j
    · subst h
      have hi : i < env.length := by
        have := (List.getElem?_eq_some_iff.mp e).1
        simpa using this
      rw [List.getElem?_set_self hi] at e
      cases e
      exact ⟨a, vs, by rw [List.getElem?_set_self (by rw [← I.len]; exact hi)], hs, h0, ha, r⟩
    · rw [List.getElem?_set_ne h] at e ⊢
      exact I.ok j sl e
  · have key : ∀ (m : Nat) (sl : Sl), (env.set i (.ow l))[m]? = some sl → ownA sl (σ.set i (some (.ref a)))[m]? = some b → (m = i ∧ b = a) ∨ (m ≠ i ∧ env[m]? = some sl ∧ ownA sl σ[m]? = some b) := fun m sl e o => by
      by_cases h : i = m
      · subst h
        have hi : i < env.length := by
          have := (List.getElem?_eq_some_iff.mp e).1
          simpa using this
        rw [List.getElem?_set_self hi] at e
        cases e
        rw [List.getElem?_set_self (by rw [← I.len]; exact hi)] at o
        have : a = b := by simpa [ownA] using o
        exact Or.inl ⟨rfl, this.symm⟩
      · rw [List.getElem?_set_ne h] at e o
        exact Or.inr ⟨fun z => h z.symm, e, o⟩
    rcases key j sj ej oj with ⟨rfl, rfl⟩ | ⟨n1, e1, o1⟩
    · rcases key k sk ek ok with ⟨rfl, _⟩ | ⟨n2, e2, o2⟩
      · rfl
      · exact absurd o2 (nw k sk e2)
    · rcases key k sk ek ok with ⟨rfl, rfl⟩ | ⟨n2, e2, o2⟩
      · exact absurd o1 (nw j sj e1)
      · exact I.dis j k b sj sk e1 e2 o1 o2
/-- x = a new list, to be one's own -/
def dSetO (i : Nat) (f : DTA) : DS := fun Dd env n => f env n (fun ds n1 => Dd.nx (env.set i (.ow ds)) n1) (fun x n1 => Dd.ex x env n1)
theorem ds_setO (i : Nat) {f : DTA} (h : PS X st (tAsg (liftF X.K B f) (gName i))) : PS X st (liftS X.K B (dSetO i f)) := ps_imp h fun D σ H ⟨Hs, env, n, Dd, I, h, L⟩ =>
  ⟨Hs, env, n, _, _, I, h, fun a vs ds n1 Hs1 H1 g ha hs h' r q => by
    refine L.nx _ n1 _ Hs1 H1 g.gr.sh ((I.call g).own hs ?_ h' r fun j sl e o => ?_) q
    · cases e : B.H0 a with
      | none => rfl
      | some o => exact absurd ha (I.gr.al a (by rw [e]; simp))
    · have q := I.ok j sl e
      cases sl <;> first | (simp [ownA] at o; done) | skip
      · obtain ⟨b, ws, h1, h2, h3, h4, h5⟩ := q
        rw [h1] at o
        have : b = a := by simpa [ownA] using o
        rw [this, ha] at h4
        cases h4
      · obtain ⟨b, dx, ws, h1, h2, h3, h4, h5⟩ := q
        rw [h1] at o
        have : b = a := by simpa [ownA] using o
        rw [this, ha] at h4
        (cases h4), L.cox I⟩
/-- x.append(e) -/
theorem DI.grow {K : PySem.W.Frag} {env : DEnv} {n : Nat} {σ : L2.St} {Hs H : Hp} {i : Nat} {a : Addr} {l l' : List D} {vs vs' : List V} (I : DI K B env n σ Hs H) (ei : env[i]? = some (.ow l)) (ea : σ[i]? = some (some (.ref a))) (hs : Hs a = none) (h0 : B.H0 a = none) (eh : H a = some (.lst vs)) (r : Reps K Hs l' vs') :
    DI K B (env.set i (.ow l')) n σ Hs (upd H a (.lst vs')) := by
  have hi : i < env.length := (List.getElem?_eq_some_iff.mp ei).1
  refine ⟨fun b o e => ?_, fun p hp => ⟨(I.pen p hp).1, ?_⟩, ⟨I.gr.sh, fun b o hb e => ?_, fun b hb => ?_, I.gr.fr, fun q ca r e => let ⟨r1, e1⟩ := I.gr.pc q ca r e; ⟨r1, by rw [upd_ne (by rintro rfl; rw [eh] at e1; cases e1)]; exact e1⟩⟩, by simp [I.len], fun j sl e => ?_, fun j k b sj sk ej ek oj ok => ?_⟩
  · rw [upd_ne (by rintro rfl; rw [hs] at e; cases e)]; exact I.sub b o e
  · obtain ⟨ca, ms, kk, ll, e1, e2, e3, e4⟩ := (I.pen p hp).2
    exact ⟨ca, ms, kk, ll, by rw [upd_ne (by rintro rfl; rw [eh] at e1; cases e1)]; exact e1, e2, e3, e4⟩
  · rw [upd_ne (ne_of_none e h0)]; exact I.gr.ex b o hb e
  · by_cases z : b = a
    · subst z; rw [upd_same]; simp
    · rw [upd_ne z]; exact I.gr.al b hb
  · by_cases h : i = j
    · subst h
      rw [List.getElem?_set_self hi] at e
      cases e
      exact ⟨a, vs', ea, hs, h0, upd_same, r⟩
    · rw [List.getElem?_set_ne h] at e
      have q := I.ok j sl e
      cases sl with
      | un => trivial
      | sh d => exact q
      | ow l2 =>
        obtain ⟨b, ws, h1, h2, h3, h4, h5⟩ := q
        have hba : b ≠ a := by
          rintro rfl
          exact h (I.dis i j b _ _ ei e (by rw [ea]; rfl) (by rw [h1]; rfl))
        exact ⟨b, ws, h1, h2, h3, by rw [upd_ne hba]; exact h4, h5⟩
      | nw c ns2 ds2 =>
        obtain ⟨b, dy, ws, h1, h2, h3, h4, h5, h6⟩ := q
        exact ⟨b, dy, ws, h1, h2, h3, by rw [upd_ne (by rintro rfl; rw [eh] at h4; cases h4)]; exact h4, h5, h6⟩
  · have key : ∀ (m : Nat) (sl : Sl), (env.set i (.ow l'))[m]? = some sl → ownA sl σ[m]? = some b → ∃ sl', env[m]? = some sl' ∧ ownA sl' σ[m]? = some b := fun m sl e o => by
      by_cases h : i = m
      · subst h
        rw [List.getElem?_set_self hi] at e
        cases e
        refine ⟨_, ei, ?_⟩
        rw [ea] at o ⊢
        exact o
      · rw [List.getElem?_set_ne h] at e
        exact ⟨sl, e, o⟩
    obtain ⟨s1, a1, b1⟩ := key j sj ej oj
    obtain ⟨s2, a2, b2⟩ := key k sk ek ok
    exact I.dis j k b s1 s2 a1 a2 b1 b2
/-- a list of one's own is given away: shared from here on -/
theorem DI.freezeAt {K : PySem.W.Frag} {env : DEnv} {n : Nat} {σ : L2.St} {Hs H : Hp} {i : Nat} {l : List D} {a : Addr} {vs : List V} (I : DI K B env n σ Hs H) (ei : env[i]? = some (.ow l)) (ea : σ[i]? = some (some (.ref a))) (hs : Hs a = none) (h0 : B.H0 a = none) (eh : H a = some (.lst vs)) (r : Reps K Hs l vs) : Same Hs (upd Hs a (.lst vs)) ∧ DI K B (env.set i (.sh (.lst l))) n σ (upd Hs a (.lst vs)) H := by
  have hi : i < env.length := (List.getElem?_eq_some_iff.mp ei).1
  have ss : Same Hs (upd Hs a (.lst vs)) := fun b o e => by rw [upd_ne (ne_of_none e hs)]; exact e
  refine ⟨ss, fun b o e => ?_, fun p hp => ⟨(I.pen p hp).1, ?_⟩, ⟨I.gr.sh.trans ss, I.gr.ex, I.gr.al, fun b hb hz => ?_, I.gr.pc⟩, by simp [I.len], fun j sl e => ?_, fun j k b sj sk ej ek oj ok => ?_⟩
  · by_cases z : b = a
    · subst z; rw [upd_same] at e; cases e; exact eh
    · rw [upd_ne z] at e; exact I.sub b o e
  · obtain ⟨ca, ms, kk, ll, e1, e2, e3, e4⟩ := (I.pen p hp).2
    exact ⟨ca, ms, kk, ll, e1, by rw [upd_ne (by rintro rfl; rw [eh] at e1; cases e1)]; exact e2, ss _ _ e3, e4⟩
  · rw [upd_ne (by rintro rfl; exact hb h0)]; exact I.gr.fr b hb hz
  · by_cases h : i = j
    · subst h
      rw [List.getElem?_set_self hi] at e
      cases e
      exact ⟨.ref a, ea, a, vs, rfl, upd_same, r.mono ss⟩
    · rw [List.getElem?_set_ne h] at e
      have q := I.ok j sl e
      cases sl with
      | un => trivial
      | sh d => obtain ⟨v, h1, h2⟩ := q; exact ⟨v, h1, h2.mono ss⟩
      | ow l2 =>
        obtain ⟨b, ws, h1, h2, h3, h4, h5⟩ := q
        have hba : b ≠ a := by
          rintro rfl
          exact h (I.dis i j b _ _ ei e (by rw [ea]; rfl) (by rw [h1]; rfl))
        exact ⟨b, ws, h1, by rw [upd_ne hba]; exact h2, h3, h4, h5.mono ss⟩
      | nw c ns2 ds2 =>
        obtain ⟨b, dy, ws, h1, h2, h3, h4, h5, h6⟩ := q
        exact ⟨b, dy, ws, h1, by rw [upd_ne (by rintro rfl; rw [eh] at h4; cases h4)]; exact h2, h3, h4, h5, h6.mono ss⟩
  · have key : ∀ (m : Nat) (sl : Sl), (env.set i (.sh (.lst l)))[m]? = some sl → ownA sl σ[m]? = some b → env[m]? = some sl := fun m sl e o => by
      by_cases h : i = m
      · subst h
        rw [List.getElem?_set_self hi] at e
        cases e
        simp [ownA] at o
      · rw [List.getElem?_set_ne h] at e
        exact e
    exact I.dis j k b sj sk (key j sj ej oj) (key k sk ek ok) oj ok
theorem DI.freeze {K : PySem.W.Frag} {env : DEnv} {n : Nat} {σ : L2.St} {Hs H : Hp} {i : Nat} {l : List D} (I : DI K B env n σ Hs H) (ei : env[i]? = some (.ow l)) : ∃ Hs', Same Hs Hs' ∧ DI K B (env.set i (.sh (.lst l))) n σ Hs' H := by
  obtain ⟨a, vs, ea, hs, h0, eh, r⟩ := I.ok i _ ei
  exact ⟨_, I.freezeAt ei ea hs h0 eh r⟩
def frzOf (P : Sl → Prop) : Option Sl → Prop
  | some (.ow l) => P (.sh (.lst l))
  | _ => False
/-- the rest of a block with the list at slot i given away -/
def dFrz (i : Nat) (s : DS) : DS := fun Dd env n => frzOf (fun sl => s Dd (env.set i sl) n) env[i]?
theorem dss_frz (i : Nat) {sts : List Stmt} {s : DS} (h : PSs X sts (liftS X.K B s)) : PSs X sts (liftS X.K B (dFrz i s)) := pss_imp h fun D σ H ⟨Hs, env, n, Dd, I, q, L⟩ => by
  unfold dFrz at q
  cases e : env[i]? with
  | none => rw [e] at q; exact False.elim q
  | some sl =>
    rw [e] at q
    cases sl <;> first | exact False.elim q | skip
    obtain ⟨Hs', ss, I'⟩ := I.freeze e
    exact ⟨Hs', _, n, Dd, I', q, L.on ss⟩
end
end DL

namespace DL
open PySem L2 PyProof.Rows

/-! ### a list of one's own, lent for one expression -/
mutual
/-- no list within -/
def noL : D → Bool
  | .lst _ => false
  | .scr _ => false
  | .tup l => noLs l
  | .obj _ _ l => noLs l
  | .dct _ l => noLs l
  | _ => true
def noLs : List D → Bool
  | [] => true
  | d :: l => noL d && noLs l
end
def lessH (H : Hp) (a : Addr) : Hp := fun b => if b = a then none else H b
theorem lessH_ne {H : Hp} {a b : Addr} (h : b ≠ a) : lessH H a b = H b := if_neg h
theorem lessH_same {H : Hp} {a : Addr} : lessH H a a = none := if_pos rfl
mutual
theorem Rep.less {K : PySem.W.Frag} {H : Hp} {a : Addr} {xs : List V} (e : H a = some (.lst xs)) : ∀ {d : D} {v : V}, noL d = true → Rep K H d v → Rep K (lessH H a) d v
  | .non, v, _, h => h
  | .bl _, v, _, h => h
  | .int _, v, _, h => h
  | .str _, v, _, h => h
  | .tup l, v, n, h => by
    obtain ⟨b, vs, h1, h2, h3⟩ := h
    refine ⟨b, vs, h1, ?_, Reps.less e (by simpa [noL] using n) h3⟩
    rcases h2 with (h | ⟨o, h⟩) | h
    · exact Or.inl (Or.inl (by rw [lessH_ne (by rintro rfl; rw [e] at h; cases h)]; exact h))
    · exact Or.inl (Or.inr ⟨o, by rw [lessH_ne (by rintro rfl; rw [e] at h; cases h)]; exact h⟩)
    · exact Or.inr h
  | .lst l, v, n, h => by simp [noL] at n
  | .obj c ns l, v, n, h => by
    obtain ⟨b, dx, vs, h1, h2, h3, h4⟩ := h
    exact ⟨b, dx, vs, h1, by rw [lessH_ne (by rintro rfl; rw [e] at h2; cases h2)]; exact h2, h3, Reps.less e (by simpa [noL] using n) h4⟩
  | .dct ks l, v, n, h => by
    obtain ⟨b, vs, h1, h2, h3, h4⟩ := h
    exact ⟨b, vs, h1, by rw [lessH_ne (by rintro rfl; rw [e] at h2; cases h2)]; exact h2, h3, Reps.less e (by simpa [noL] using n) h4⟩
  | .ref _, v, _, h => h
  | .ty _, v, _, h => h
  | .scr ns, v, n, h => by simp [noL] at n
theorem Reps.less {K : PySem.W.Frag} {H : Hp} {a : Addr} {xs : List V} (e : H a = some (.lst xs)) : ∀ {l : List D} {vs : List V}, noLs l = true → Reps K H l vs → Reps K (lessH H a) l vs
  | [], vs, _, h => h
  | d :: l, vs, n, h => by
    obtain ⟨v, r, h1, h2, h3⟩ := h
    have n' : noL d = true ∧ noLs l = true := by simpa [noLs] using n
    exact ⟨v, r, h1, Rep.less e n'.1 h2, Reps.less e n'.2 h3⟩
end
section
variable {X : Cx} {B : Bs} {e a b c : Expr} {pos : Pos} {t ta tb tc : DT} {st : Stmt} {tA : DTA}
def lendOf (i : Nat) (t : DT) (env : DEnv) (n : Nat) (R : DR) : Option Sl → Prop
  | some (.ow l) => t (env.set i (.sh (.lst l))) n (fun d n1 => noL d = true ∧ R d n1) noX
  | _ => False
def dLend (i : Nat) (t : DT) : DT := fun env n R _ => lendOf i t env n R env[i]?
theorem de_lend (i : Nat) (h : PE X e (lift X.K B t)) : PE X e (lift X.K B (dLend i t)) := pe_imp h fun σ H Q ⟨Hs, env, n, R, Rx, I, ht, k, kx⟩ => by
  unfold dLend at ht
  cases ei : env[i]? with
  | none => rw [ei] at ht; exact False.elim ht
  | some sl =>
    rw [ei] at ht
    cases sl <;> first | exact False.elim ht | skip
    rename_i l
    obtain ⟨a, vs, ea, hs, h0, eh, r⟩ := I.ok i _ ei
    obtain ⟨Hs', ss, I', hH⟩ : ∃ Hs', Same Hs Hs' ∧ DI X.K B (env.set i (.sh (.lst l))) n σ Hs' H ∧ Hs' = upd Hs a (.lst vs) := by
      have := I.freezeAt ei ea hs h0 eh r
      exact ⟨_, this.1, this.2, rfl⟩
    subst hH
    refine ⟨_, _, n, _, noX, I', ht, fun v d n1 Hs1 H1 g rv q => ?_, cox_no⟩
    obtain ⟨nl, q⟩ := q
    have ea1 : Hs1 a = some (.lst vs) := g.gr.sh a _ upd_same
    refine k v d n1 (lessH Hs1 a) H1 ⟨⟨fun b o eb => ?_, g.gr.ex, g.gr.al, fun b hb hz => ?_, g.gr.pc⟩, fun b o eb => ?_, fun p hp => ?_⟩ (rv.less ea1 nl) q
    · have hba : b ≠ a := by rintro rfl; rw [hs] at eb; cases eb
      rw [lessH_ne hba]
      exact g.gr.sh b o (ss b o eb)
    · by_cases hba : b = a
      · subst hba; exact lessH_same
      · rw [lessH_ne hba]
        exact g.gr.fr b hb (by rw [upd_ne hba]; exact hz)
    · by_cases hba : b = a
      · subst hba; rw [lessH_same] at eb; cases eb
      · rw [lessH_ne hba] at eb; exact g.sub b o eb
    · obtain ⟨ca, ns, kk, ll, e1, e2, e3, e4⟩ := (I.pen p hp).2
      obtain ⟨ca', ns', kk', ll', f1, f2, f3, f4⟩ := g.pen p hp
      obtain ⟨r', hr'⟩ := g.gr.pc p ca _ e1
      rw [f1] at hr'
      have hc : ca' = ca := by
        have := Option.some.inj hr'
        injection this with this
        injection this with h1 h2
        injection h1 with h3 h4
        injection h4
      subst hc
      have hca : ca' ≠ a := by rintro rfl; rw [hs] at e3; cases e3
      refine ⟨ca', ns', kk', ll', f1, ?_, by rw [lessH_ne hca]; exact f3, f4⟩
      by_cases hpa : p = a
      · subst hpa; exact lessH_same
      · rw [lessH_ne hpa]; exact f2

/-! ### x.append(e) -/
def appOf (i : Nat) (t : DT) (Dd : DEnds) (env : DEnv) (n : Nat) : Option Sl → Prop
  | some (.ow l) => t env n (fun d n1 => l.length < sizeLine ∧ Dd.nx (env.set i (.ow (l ++ [d]))) n1) (fun x n1 => Dd.ex x env n1)
  | _ => False
def dAppend (i : Nat) (t : DT) : DS := fun Dd env n => appOf i t Dd env n env[i]?
theorem ds_append (i : Nat) (h : PS X st (tDrop (tBM X.K "list" rAppend (tVar i) (tCons (lift X.K B t) tNil)))) : PS X st (liftS X.K B (dAppend i t)) := ps_imp h fun D σ H ⟨Hs, env, n, Dd, I, ht, L⟩ => by
  unfold dAppend at ht
  cases ei : env[i]? with
  | none => rw [ei] at ht; exact False.elim ht
  | some sl =>
    rw [ei] at ht
    cases sl <;> first | exact False.elim ht | skip
    rename_i l
    obtain ⟨a, vs, ea, hs, h0, eh, r⟩ := I.ok i _ ei
    refine ⟨.ref a, ea, Or.inl ⟨rfl, vs, SqL.of eh⟩, ?_⟩
    refine ⟨Hs, env, n, _, _, I, ht, fun v d n1 Hs1 H1 g rv q => ?_, L.cox I⟩
    have I1 := I.call g
    obtain ⟨a', vs', ea', hs', h0', eh', r'⟩ := I1.ok i _ ei
    rw [ea] at ea'
    cases ea'
    refine ⟨a, vs', v, rfl, rfl, eh', by rw [← r'.length]; exact q.1, ?_⟩
    exact L.nx _ n1 _ Hs1 _ g.gr.sh (I1.grow ei ea hs' h0' eh' (r'.snoc rv)) q.2

theorem ds_setOF (i : Nat) {f : DTA} {t : TE} (h : PS X st (tAsg t (gName i))) (j : ∀ σ H Q, liftF X.K B f σ H Q → t σ H Q) : PS X st (liftS X.K B (dSetO i f)) := ds_setO i (tasg_imp j h)
/-- the slots hold no list that was not there -/
theorem DI.notOwn {K : PySem.W.Frag} {env : DEnv} {n : Nat} {σ : L2.St} {Hs H : Hp} {a : Addr} (I : DI K B env n σ Hs H) (ha : H a = none) (j : Nat) (sl : Sl) (e : env[j]? = some sl) : ownA sl σ[j]? ≠ some a := fun o => by
  have q := I.ok j sl e
  cases sl <;> first | (simp [ownA] at o; done) | skip
  · obtain ⟨b, ws, h1, h2, h3, h4, h5⟩ := q
    rw [h1] at o
    have : b = a := by simpa [ownA] using o
    rw [this, ha] at h4
    cases h4
  · obtain ⟨b, dx, ws, h1, h2, h3, h4, h5⟩ := q
    rw [h1] at o
    have : b = a := by simpa [ownA] using o
    rw [this, ha] at h4
    cases h4
/-- a, b = [..], y: the first one to be one's own -/
def dParO (i j : Nat) (f : DTA) (t : DT) : DS := fun Dd env n => f env n (fun ds n1 => t env n1 (fun d n2 => Dd.nx ((env.set i (.ow ds)).set j (.sh d)) n2) (fun x n1 => Dd.ex x env n1)) (fun x n1 => Dd.ex x env n1)
theorem ds_parO (i j : Nat) {f : DTA} (h : PS X st (tPar i j (tCons (liftF X.K B f) (tCons (lift X.K B t) tNil)))) : PS X st (liftS X.K B (dParO i j f t)) := ps_imp h fun D σ H ⟨Hs, env, n, Dd, I, ht, L⟩ =>
  ⟨Hs, env, n, _, _, I, ht, fun a vs ds n1 Hs1 H1 g ha hs ha1 r q => ⟨Hs1, env, n1, _, _, I.call g, q, fun v d n2 Hs2 H2 g2 rv q2 => by
    refine ⟨.ref a, v, rfl, ?_⟩
    have a2 : H2 a = some (.lst vs) := g2.keepL g.pen ha1
    have s2 : Hs2 a = none := g2.gr.fr a (by rw [ha1]; simp) hs
    have h0 : B.H0 a = none := by
      cases e : B.H0 a with
      | none => rfl
      | some o => exact absurd ha (I.gr.al a (by rw [e]; simp))
    exact L.nx _ n2 _ Hs2 H2 (g.gr.sh.trans g2.gr.sh) ((((I.call g).call g2).own s2 h0 a2 (r.mono g2.gr.sh) (I.notOwn ha)).set rv) q2, (L.on g.gr.sh).cox (I.call g)⟩, L.cox I⟩

/-! ### list comprehensions, whole -/
theorem df_lc {elt tg iter : Expr} {ifs : List Expr} {scope : Scope} {own : List (Str × Nat)} {ws : List Nat} {g : DG} {tt : DTT} {ti te : DT} (hc : X.calm = true) (hN : X.N.Nodup) (hi : PE X iter (lift X.K B ti)) (ok : BlkOk X.N X.env.scope scope own) (hg : ∀ (s : Shared) (H : Hp) (C : Addr) (cl : List (Str × Addr)) (fp : List Addr), PG (X.blk s H scope (compEnvC scope cl C X.env) fp) tg (liftG X.K B ws g)) (ht : ∀ (s : Shared) (H : Hp) (C : Addr) (cl : List (Str × Addr)) (fp : List Addr), PTs (X.blk s H scope (compEnvC scope cl C X.env) fp) ifs (liftT X.K B tt)) (he : ∀ (s : Shared) (H : Hp) (C : Addr) (cl : List (Str × Addr)) (fp : List Addr), PE (X.blk s H scope (compEnvC scope cl C X.env) fp) elt (lift X.K B te)) (hs : ∀ x, foldedSetIterable iter X.env x = pure x := by intro _; rfl) (hw : own.map (·.2) = ws := by rfl) : PE X (.ListComp elt [⟨tg, iter, ifs, 0⟩] scope pos) (liftF X.K B (fLc ti g tt te ws)) := by
  subst hw
  exact df_of (pe_lc hc hN (pi_seq hi) ok hg ht he hs) fun _ _ _ q => lc_seq q
theorem df_lcI {elt tg iter : Expr} {ifs : List Expr} {scope : Scope} {own : List (Str × Nat)} {ws : List Nat} {g : DG} {tt : DTT} {te : DT} {wi : TI} {f : DTA} (hc : X.calm = true) (hN : X.N.Nodup) (hi : PI X tg iter wi) (hq : ∀ σ H Q, liftF X.K B f σ H Q → tLc wi (liftG X.K B ws g) (liftT X.K B tt) (lift X.K B te) ws σ H Q) (ok : BlkOk X.N X.env.scope scope own) (hg : ∀ (s : Shared) (H : Hp) (C : Addr) (cl : List (Str × Addr)) (fp : List Addr), PG (X.blk s H scope (compEnvC scope cl C X.env) fp) tg (liftG X.K B ws g)) (ht : ∀ (s : Shared) (H : Hp) (C : Addr) (cl : List (Str × Addr)) (fp : List Addr), PTs (X.blk s H scope (compEnvC scope cl C X.env) fp) ifs (liftT X.K B tt)) (he : ∀ (s : Shared) (H : Hp) (C : Addr) (cl : List (Str × Addr)) (fp : List Addr), PE (X.blk s H scope (compEnvC scope cl C X.env) fp) elt (lift X.K B te)) (hs : ∀ x, foldedSetIterable iter X.env x = pure x := by intro _; rfl) (hw : own.map (·.2) = ws := by rfl) : PE X (.ListComp elt [⟨tg, iter, ifs, 0⟩] scope pos) (liftF X.K B f) := by
  subst hw
  exact df_of (pe_lc hc hN hi ok hg ht he hs) hq
theorem df_lcR {elt tg : Expr} {ifs : List Expr} {scope : Scope} {own : List (Str × Nat)} {ws : List Nat} {g : DG} {tt : DTT} {te : DT} {iter : Expr} {tA : DTA} (hc : X.calm = true) (hN : X.N.Nodup) (hi : PI X tg iter (iRng1 (liftA X.K B tA))) (ok : BlkOk X.N X.env.scope scope own) (hg : ∀ (s : Shared) (H : Hp) (C : Addr) (cl : List (Str × Addr)) (fp : List Addr), PG (X.blk s H scope (compEnvC scope cl C X.env) fp) tg (liftG X.K B ws g)) (ht : ∀ (s : Shared) (H : Hp) (C : Addr) (cl : List (Str × Addr)) (fp : List Addr), PTs (X.blk s H scope (compEnvC scope cl C X.env) fp) ifs (liftT X.K B tt)) (he : ∀ (s : Shared) (H : Hp) (C : Addr) (cl : List (Str × Addr)) (fp : List Addr), PE (X.blk s H scope (compEnvC scope cl C X.env) fp) elt (lift X.K B te)) (hs : ∀ x, foldedSetIterable iter X.env x = pure x := by intro _; rfl) (hw : own.map (·.2) = ws := by rfl) : PE X (.ListComp elt [⟨tg, iter, ifs, 0⟩] scope pos) (liftF X.K B (fLcR tA g tt te ws)) := df_lcI hc hN hi (fun _ _ _ q => lc_rng q) ok hg ht he hs hw
theorem ds_lc (i : Nat) {elt tg iter : Expr} {ifs : List Expr} {scope : Scope} {own : List (Str × Nat)} {ws : List Nat} {g : DG} {tt : DTT} {ti te : DT} {y : Str} {py spos : Pos} (hc : X.calm = true) (hN : X.N.Nodup) (hy : X.N[i]? = some y) (hyl : X.env.scope.names.lookup y = some .local) (hsw : swapsWith (.ListComp elt [⟨tg, iter, ifs, 0⟩] scope pos) (some (.Name y py)) spos.line X.env = pure true) (hi : PE X iter (lift X.K B ti)) (ok : BlkOk X.N X.env.scope scope own) (hg : ∀ (s : Shared) (H : Hp) (C : Addr) (cl : List (Str × Addr)) (fp : List Addr), PG (X.blk s H scope (compEnvC scope cl C X.env) fp) tg (liftG X.K B ws g)) (ht : ∀ (s : Shared) (H : Hp) (C : Addr) (cl : List (Str × Addr)) (fp : List Addr), PTs (X.blk s H scope (compEnvC scope cl C X.env) fp) ifs (liftT X.K B tt)) (he : ∀ (s : Shared) (H : Hp) (C : Addr) (cl : List (Str × Addr)) (fp : List Addr), PE (X.blk s H scope (compEnvC scope cl C X.env) fp) elt (lift X.K B te)) (hs : ∀ x, foldedSetIterable iter X.env x = pure x := by intro _; rfl) (hw : own.map (·.2) = ws := by rfl) : PS X (.Assign [.Name y py] (.ListComp elt [⟨tg, iter, ifs, 0⟩] scope pos) spos) (liftS X.K B (dSet i (fSh (fLc ti g tt te ws)))) := by
  subst hw
  exact ds_setF i (ps_setLc hc hN hy hyl hsw (pi_seq hi) ok hg ht he hs) fun _ _ _ q => lc_seq q
theorem ds_lcO (i : Nat) {elt tg iter : Expr} {ifs : List Expr} {scope : Scope} {own : List (Str × Nat)} {ws : List Nat} {g : DG} {tt : DTT} {ti te : DT} {y : Str} {py spos : Pos} (hc : X.calm = true) (hN : X.N.Nodup) (hy : X.N[i]? = some y) (hyl : X.env.scope.names.lookup y = some .local) (hsw : swapsWith (.ListComp elt [⟨tg, iter, ifs, 0⟩] scope pos) (some (.Name y py)) spos.line X.env = pure true) (hi : PE X iter (lift X.K B ti)) (ok : BlkOk X.N X.env.scope scope own) (hg : ∀ (s : Shared) (H : Hp) (C : Addr) (cl : List (Str × Addr)) (fp : List Addr), PG (X.blk s H scope (compEnvC scope cl C X.env) fp) tg (liftG X.K B ws g)) (ht : ∀ (s : Shared) (H : Hp) (C : Addr) (cl : List (Str × Addr)) (fp : List Addr), PTs (X.blk s H scope (compEnvC scope cl C X.env) fp) ifs (liftT X.K B tt)) (he : ∀ (s : Shared) (H : Hp) (C : Addr) (cl : List (Str × Addr)) (fp : List Addr), PE (X.blk s H scope (compEnvC scope cl C X.env) fp) elt (lift X.K B te)) (hs : ∀ x, foldedSetIterable iter X.env x = pure x := by intro _; rfl) (hw : own.map (·.2) = ws := by rfl) : PS X (.Assign [.Name y py] (.ListComp elt [⟨tg, iter, ifs, 0⟩] scope pos) spos) (liftS X.K B (dSetO i (fLc ti g tt te ws))) := by
  subst hw
  exact ds_setOF i (ps_setLc hc hN hy hyl hsw (pi_seq hi) ok hg ht he hs) fun _ _ _ q => lc_seq q
theorem ds_lcR (i : Nat) {elt tg : Expr} {ifs : List Expr} {scope : Scope} {own : List (Str × Nat)} {ws : List Nat} {g : DG} {tt : DTT} {te : DT} {iter : Expr} {tA : DTA} {y : Str} {py spos : Pos} (hc : X.calm = true) (hN : X.N.Nodup) (hy : X.N[i]? = some y) (hyl : X.env.scope.names.lookup y = some .local) (hsw : swapsWith (.ListComp elt [⟨tg, iter, ifs, 0⟩] scope pos) (some (.Name y py)) spos.line X.env = pure true) (hi : PI X tg iter (iRng1 (liftA X.K B tA))) (ok : BlkOk X.N X.env.scope scope own) (hg : ∀ (s : Shared) (H : Hp) (C : Addr) (cl : List (Str × Addr)) (fp : List Addr), PG (X.blk s H scope (compEnvC scope cl C X.env) fp) tg (liftG X.K B ws g)) (ht : ∀ (s : Shared) (H : Hp) (C : Addr) (cl : List (Str × Addr)) (fp : List Addr), PTs (X.blk s H scope (compEnvC scope cl C X.env) fp) ifs (liftT X.K B tt)) (he : ∀ (s : Shared) (H : Hp) (C : Addr) (cl : List (Str × Addr)) (fp : List Addr), PE (X.blk s H scope (compEnvC scope cl C X.env) fp) elt (lift X.K B te)) (hs : ∀ x, foldedSetIterable iter X.env x = pure x := by intro _; rfl) (hw : own.map (·.2) = ws := by rfl) : PS X (.Assign [.Name y py] (.ListComp elt [⟨tg, iter, ifs, 0⟩] scope pos) spos) (liftS X.K B (dSet i (fSh (fLcR tA g tt te ws)))) := by
  subst hw
  exact ds_setF i (ps_setLc hc hN hy hyl hsw hi ok hg ht he hs) fun _ _ _ q => lc_rng q
theorem ds_lcRO (i : Nat) {elt tg : Expr} {ifs : List Expr} {scope : Scope} {own : List (Str × Nat)} {ws : List Nat} {g : DG} {tt : DTT} {te : DT} {iter : Expr} {tA : DTA} {y : Str} {py spos : Pos} (hc : X.calm = true) (hN : X.N.Nodup) (hy : X.N[i]? = some y) (hyl : X.env.scope.names.lookup y = some .local) (hsw : swapsWith (.ListComp elt [⟨tg, iter, ifs, 0⟩] scope pos) (some (.Name y py)) spos.line X.env = pure true) (hi : PI X tg iter (iRng1 (liftA X.K B tA))) (ok : BlkOk X.N X.env.scope scope own) (hg : ∀ (s : Shared) (H : Hp) (C : Addr) (cl : List (Str × Addr)) (fp : List Addr), PG (X.blk s H scope (compEnvC scope cl C X.env) fp) tg (liftG X.K B ws g)) (ht : ∀ (s : Shared) (H : Hp) (C : Addr) (cl : List (Str × Addr)) (fp : List Addr), PTs (X.blk s H scope (compEnvC scope cl C X.env) fp) ifs (liftT X.K B tt)) (he : ∀ (s : Shared) (H : Hp) (C : Addr) (cl : List (Str × Addr)) (fp : List Addr), PE (X.blk s H scope (compEnvC scope cl C X.env) fp) elt (lift X.K B te)) (hs : ∀ x, foldedSetIterable iter X.env x = pure x := by intro _; rfl) (hw : own.map (·.2) = ws := by rfl) : PS X (.Assign [.Name y py] (.ListComp elt [⟨tg, iter, ifs, 0⟩] scope pos) spos) (liftS X.K B (dSetO i (fLcR tA g tt te ws))) := by
  subst hw
  exact ds_setOF i (ps_setLc hc hN hy hyl hsw hi ok hg ht he hs) fun _ _ _ q => lc_rng q

/-! ### a op b op c -/
def dChain (f f' : D → D → (D → Prop) → Prop) (ta tb tc : DT) : DT := fun env n R Rx => ta env n (fun x n1 => tb env n1 (fun y n2 => f x y fun z => boolOf (fun k n2 => if k = true then tc env n2 (fun w n3 => f' y w fun z => R z n3) Rx else R (.bl false) n2) z n2) Rx) Rx
theorem chain_lift {r r' : R2} {f f' : D → D → (D → Prop) → Prop} (hf : OpD X.K r f) (hf' : OpD X.K r' f') {σ : L2.St} {H : Hp} {Q : VK} (h : lift X.K B (dChain f f' ta tb tc) σ H Q) : tChain r r' (liftB X.K B ta) (liftB X.K B tb) (liftB X.K B tc) σ H Q := by
  obtain ⟨Hs, env, n, R, Rx, I, ht, k, kx⟩ := h
  refine ⟨Hs, env, n, _, Rx, I, ht, fun x dx n1 Hs1 H1 g1 r1 h1 => ?_, kx⟩
  refine ⟨Hs1, env, n1, _, Rx, I.call g1, h1, fun y dy n2 Hs2 H2 g2 r2 h2 => ?_, kx.on g1⟩
  refine hf B.pn n2 Hs2 H2 x y dx dy _ _ g2.sub g2.pen (r1.on g1.pen g2) r2 h2 fun v d Hs3 H3 g3 r3 q3 => ?_
  obtain ⟨j, e, q⟩ := bool_of r3 q3
  refine ⟨j, e, ?_⟩
  have g13 := (g1.trans g2).trans g3
  cases j with
  | true => exact ⟨Hs3, env, n2, _, Rx, I.call g13, q, fun w dw n4 Hs4 H4 g4 r4 h4 => hf' B.pn n4 Hs4 H4 y w dy dw _ Q g4.sub g4.pen ((r2.on g2.pen g3).on g3.pen g4) r4 h4 fun v d Hs' H' g r q => k v d n4 Hs' H' ((g13.trans g4).trans g) r q, kx.on g13⟩
  | false => exact k _ (.bl false) n2 Hs3 H3 g13 rfl q
theorem de_chain {op op' : CmpOp} {r r' : R2} {f f' : D → D → (D → Prop) → Prop} (ho : OpR X (compareOp op) r) (hf : OpD X.K r f) (ho' : OpR X (compareOp op') r') (hf' : OpD X.K r' f') (ha : PE X a (liftB X.K B ta)) (hb : PE X b (liftB X.K B tb)) (hc : PE X c (liftB X.K B tc))
    (hm : lastMarks [op, op'] [b, c] = false := by with_unfolding_all rfl) : PE X (.Compare a [op, op'] [b, c] pos) (lift X.K B (dChain f f' ta tb tc)) := pe_imp (pe_chain ho ho' ha hb hc hm) fun σ H Q h => chain_lift hf hf' h
theorem dt_chain {op op' : CmpOp} {r r' : R2} {f f' : D → D → (D → Prop) → Prop} (ho : OpR X (compareOp op) r) (hf : OpD X.K r f) (ho' : OpR X (compareOp op') r') (hf' : OpD X.K r' f') (ha : PE X a (liftB X.K B ta)) (hb : PE X b (liftB X.K B tb)) (hc : PE X c (liftB X.K B tc))
    (hm : lastMarks [op, op'] [b, c] = false := by with_unfolding_all rfl) : PT X (.Compare a [op, op'] [b, c] pos) (liftT X.K B (dTest (dChain f f' ta tb tc))) := pt_imp (pt_chain ho ho' ha hb hc hm) fun σ H Q ⟨Hs, env, n, R, Rx, I, ht, k, kx⟩ =>
  chain_lift hf hf' ⟨Hs, env, n, boolOf R, Rx, I, ht, fun v d n' Hs' H' g r h => by
    obtain ⟨j, e, q⟩ := bool_of r h
    exact ⟨j, e, k j n' Hs' H' g q⟩, kx⟩

/-! ### o(x): an instance's __call__ -/
structure MeC (P : Program) (w : World) (K : PySem.W.Frag) (mg : Str → Option Value) (base : Heap) (CX : CXT) (pn : Option Addr) (k : Nat) (C : Addr) (ps : List Str) (sp : DSp) : Prop where
  ex : ∃ f fd, FnOk P w K mg base CX k f fd ps (liftSp K pn sp) ∧ StX.CallO K C f ∧ Binds K fd ps []
def dCallO (C : Addr) (sp : DSp) (t : DT) (tA : DTA) : DT := fun env n R Rx => t env n (fun o n1 => clsIs C o ∧ tA env n1 (fun ds n2 => sp (o :: ds) n2 R noX) Rx) Rx
variable {fe : Expr} {es : List Expr} {k : Nat} {ps : List Str} {sp : DSp}
theorem de_callO {C : Addr} (G : MeC X.prog X.w X.K X.mg X.base CX0 B.pn k C ps sp) (hr : Room k X.A) (hf : PE X fe (lift X.K B t)) (ha : PA X (e :: es) (liftA X.K B tA))
    (ht : eval (.Call fe (e :: es) [] pos) X.env = (do callWith pos (← eval fe X.env) [] (backTo pos (starEach (e :: es) X.env)) (backToKw pos (keywordEach [] X.env))) := by rfl)
    (he : starEach (e :: es) X.env = (false, eval e X.env) :: starEach es X.env := by rfl) (hpl : (backTo pos (starEach es X.env)).any (·.1) = false := by rfl) : PE X (.Call fe (e :: es) [] pos) (lift X.K B (dCallO C sp t tA)) := by
  obtain ⟨f, fd, F, hm, hb⟩ := G.ex
  refine pe_imp (StX.pe_callO (E := E0) hf hm (F.raw hb .nil) hr pass0 ha ht he hpl) fun σ H Q ⟨Hs, env, n, R, Rx, I, ht, kk, kx⟩ => ?_
  refine ⟨Hs, env, n, _, Rx, I, ht, fun v o n1 Hs1 H1 g r q => ?_, kx⟩
  obtain ⟨q1, q3⟩ := q
  obtain ⟨a, dx, ns, vs, ds, rfl, h2, rfl⟩ := clsIs_of q1 r
  refine ⟨a, rfl, Hs1, env, n1, _, Rx, I.call g, q3, fun ws es n2 Hs2 H2 g2 r2 q4 => ⟨Or.inr ⟨dx, _, g2.sub _ _ (g2.gr.sh _ _ h2)⟩, ?_⟩, kx.on g⟩
  exact ⟨Hs2, n2, _, R, noX, g2.sub, g2.pen, by rw [List.append_nil]; exact ⟨_, _, rfl, r.mono g2.gr.sh, r2⟩, q4, fun v d n' Hs' H' g' r' q' => kk v d n' Hs' H' ((g.trans g2).trans g') r' q', fun _ _ _ _ _ _ _ _ z => z.elim⟩
end
end DL

namespace DL
open PySem PySem.Spec L2 PyProof.Rows
section
variable {X : Cx} {K : PySem.W.Frag}
/-! ### tuple(xs), list(xs) -/
def fTupOf : List D → (D → Prop) → Prop
  | [.lst l], R => R (.tup l)
  | [.tup l], R => R (.tup l)
  | _, _ => False
def rTupOf (K : PySem.W.Frag) : List V → Hp → VK → Prop := fun xs H Q => ∃ p ys, xs = [.ref p] ∧ ((SqL K H p ys ∧ ∀ l, H l = none → Q (.ref l) (upd H l (.tup ys))) ∨ (SqT K H p ys ∧ Q (.ref p) H))
theorem call_tupOf : CallR X (.type "tuple") (rTupOf X.K) := call_tuple_of
theorem cd_tupOf : CaD K (rTupOf K) fTupOf := by
  intro pn n Hs H xs ds R Q sub pen r h kk
  unfold fTupOf at h
  split at h
  · obtain ⟨v, rfl, rv⟩ := repsB1 r
    obtain ⟨a, vs, rfl, h2, h3⟩ := rv.list sub
    refine ⟨a, vs, rfl, Or.inl ⟨SqL.of h2, fun p hp => ?_⟩⟩
    exact kk (.ref p) (.tup _) (upd Hs p (.tup vs)) _ (Gone.new sub hp pen) ⟨p, vs, rfl, SqT.of upd_same, h3.mono (same_new sub hp)⟩ h
  · obtain ⟨v, rfl, rv⟩ := repsB1 r
    have rv' := rv.ne (by intro l z; cases z)
    obtain ⟨a, vs, rfl, h2, h3⟩ := rv'
    exact ⟨a, vs, rfl, Or.inr ⟨same_t sub h2, kk (.ref a) (.tup _) Hs H (Gone.refl sub pen) ⟨a, vs, rfl, h2, h3⟩ h⟩⟩
  · exact h.elim
/-! ### min(xs), max(xs) of a list of ints -/
theorem best_le (f : Nat → Int) (bt : Nat → Nat → Bool) (n : Nat) (hb : ∀ i j, i < n → j < n → bt i j = decide (f i < f j)) : ∀ k, k < n → argBest bt k ≤ k ∧ ∀ i, i ≤ k → f (argBest bt k) ≤ f i
  | 0, h => ⟨Nat.le_refl _, fun i hi => by have : i = 0 := by omega
                                           subst this; exact Int.le_refl _⟩
  | k + 1, h => by
    obtain ⟨h1, h2⟩ := best_le f bt n hb k (by omega)
    have e : argBest bt (k + 1) = if bt (k + 1) (argBest bt k) then k + 1 else argBest bt k := rfl
    rw [e, hb (k + 1) _ h (by omega)]
    by_cases hlt : f (k + 1) < f (argBest bt k)
    · rw [if_pos (by simpa using hlt)]
      refine ⟨Nat.le_refl _, fun i hi => ?_⟩
      by_cases e : i = k + 1
      · subst e; exact Int.le_refl _
      · have := h2 i (by omega); omega
    · rw [if_neg (by simpa using hlt)]
      refine ⟨by omega, fun i hi => ?_⟩
      by_cases e : i = k + 1
      · subst e; omega
      · exact h2 i (by omega)
theorem vals_ints : ∀ {ns : List Int} {us : List Value}, Vals (ns.map V.int) us → ∀ (i : Nat) (u : Value), us[i]? = some u → ∃ n t, ns[i]? = some n ∧ u = .int n t
  | [], us, h, i, u, e => by cases h; simp at e
  | n :: ns, us, h, i, u, e => by
    cases h with
    | cons r t =>
      cases i with
      | zero =>
        simp at e
        subst e
        obtain ⟨t', rfl⟩ := r
        exact ⟨n, t', rfl, rfl⟩
      | succ i => exact vals_ints t i u (by simpa using e)
def rMinI (K : PySem.W.Frag) : List V → Hp → VK → Prop := fun vs H Q => ∃ p ns, vs = [.ref p] ∧ SqL K H p (ns.map V.int) ∧ ns ≠ [] ∧ ∀ m, m ∈ ns → (∀ x, x ∈ ns → m ≤ x) → Q (.int m) H
def rMaxI (K : PySem.W.Frag) : List V → Hp → VK → Prop := fun vs H Q => ∃ p ns, vs = [.ref p] ∧ SqL K H p (ns.map V.int) ∧ ns ≠ [] ∧ ∀ m, m ∈ ns → (∀ x, x ∈ ns → x ≤ m) → Q (.int m) H
theorem getD_int {ns : List Int} {us : List Value} (h : Vals (ns.map V.int) us) {i : Nat} (hi : i < ns.length) : ∃ t, us.toArray.getD i .none = .int (ns.getD i 0) t := by
  have hl : us.length = ns.length := by have := h.length; simpa using this.symm
  have hu : us[i]? = some us[i] := List.getElem?_eq_getElem (by omega)
  obtain ⟨n, t, e1, e2⟩ := vals_ints h i _ hu
  refine ⟨t, ?_⟩
  simp only [Array.getD_eq_getD_getElem?, List.getElem?_toArray, hu, Option.getD_some, e2]
  rw [List.getD_eq_getElem?_getD, e1]
  rfl
theorem call_minI (hc : X.calm = true) : CallR X (.builtin "min") (rMinI X.K) := by
  intro pins s σ H vs us Q I r h
  obtain ⟨p, ns, rfl, hs, hne, q⟩ := h
  obtain ⟨its, rv, hl, _⟩ := I.list hs
  rw [Vals.ref1 r]
  have hlen : its.length = ns.length := by have := rv.length; simpa using this.symm
  have hpos : 0 < ns.length := List.length_pos_iff.mpr hne
  refine call_min_walk (iter_anyList hl.isList fun s₂ e st hfp hlI => ?_)
  subst e
  refine ⟨_, _, _, _, _, _, _, rfl, Walks.list (A := X.A.in1) (I.ok.hd hc) _ p hlI its.toArray, st, hfp, by simpa [hlen] using hpos, Flt.cmpOf_lt its.toArray (fun v hv => ?_), fun v h' tk hP hk => ?_⟩
  · obtain ⟨i, hi, e⟩ := List.getElem_of_mem (by simpa using hv : v ∈ its)
    obtain ⟨n, t, _, e2⟩ := vals_ints rv i v (by rw [List.getElem?_eq_getElem hi, e])
    subst e2
    exact Flt.NumV.int _ _
  · have key := best_le (fun i => ns.getD i 0) (fun i j => Flt.ltV (its.toArray.getD i .none) (its.toArray.getD j .none)) ns.length (fun i j hi hj => by
      obtain ⟨t1, e1⟩ := getD_int rv hi
      obtain ⟨t2, e2⟩ := getD_int rv hj
      simp only [e1, e2, Flt.ltV]) (ns.length - 1) (by omega)
    have hsz : its.toArray.size - 1 = ns.length - 1 := by rw [List.size_toArray, hlen]
    rw [hsz] at hP
    generalize argBest (fun i j => Flt.ltV (its.toArray.getD i .none) (its.toArray.getD j .none)) (ns.length - 1) = b at hP key
    obtain ⟨n, t, e1, e2⟩ := vals_ints rv b v (by simpa using hP)
    subst e2
    have hn : ns.getD b 0 = n := by rw [List.getD_eq_getElem?_getD, e1]; rfl
    refine ⟨.int n, H, I.kept (PySem.old_kept hk), ⟨t, rfl⟩, q n (List.mem_of_getElem? e1) fun x hx => ?_⟩
    obtain ⟨i, hi, e⟩ := List.getElem_of_mem hx
    have := key.2 i (by omega)
    have e3 : ns.getD i 0 = x := by rw [List.getD_eq_getElem?_getD, List.getElem?_eq_getElem hi, e]; rfl
    simp only [hn, e3] at this
    exact this
theorem call_maxI (hc : X.calm = true) : CallR X (.builtin "max") (rMaxI X.K) := by
  intro pins s σ H vs us Q I r h
  obtain ⟨p, ns, rfl, hs, hne, q⟩ := h
  obtain ⟨its, rv, hl, _⟩ := I.list hs
  rw [Vals.ref1 r]
  have hlen : its.length = ns.length := by have := rv.length; simpa using this.symm
  have hpos : 0 < ns.length := List.length_pos_iff.mpr hne
  refine call_max_walk (iter_anyList hl.isList fun s₂ e st hfp hlI => ?_)
  subst e
  refine ⟨_, _, _, _, _, _, _, rfl, Walks.list (A := X.A.in1) (I.ok.hd hc) _ p hlI its.toArray, st, hfp, by simpa [hlen] using hpos, Flt.cmpOf_gt its.toArray (fun v hv => ?_), fun v h' tk hP hk => ?_⟩
  · obtain ⟨i, hi, e⟩ := List.getElem_of_mem (by simpa using hv : v ∈ its)
    obtain ⟨n, t, _, e2⟩ := vals_ints rv i v (by rw [List.getElem?_eq_getElem hi, e])
    subst e2
    exact Flt.NumV.int _ _
  · have key := best_le (fun i => - ns.getD i 0) (fun i j => Flt.ltV (its.toArray.getD j .none) (its.toArray.getD i .none)) ns.length (fun i j hi hj => by
      obtain ⟨t1, e1⟩ := getD_int rv hi
      obtain ⟨t2, e2⟩ := getD_int rv hj
      simp only [e1, e2, Flt.ltV]
      congr 1
      apply propext
      constructor <;> intro <;> omega) (ns.length - 1) (by omega)
    have hsz : its.toArray.size - 1 = ns.length - 1 := by rw [List.size_toArray, hlen]
    rw [hsz] at hP
    generalize argBest (fun i j => Flt.ltV (its.toArray.getD j .none) (its.toArray.getD i .none)) (ns.length - 1) = b at hP key
    obtain ⟨n, t, e1, e2⟩ := vals_ints rv b v (by simpa using hP)
    subst e2
    have hn : ns.getD b 0 = n := by rw [List.getD_eq_getElem?_getD, e1]; rfl
    refine ⟨.int n, H, I.kept (PySem.old_kept hk), ⟨t, rfl⟩, q n (List.mem_of_getElem? e1) fun x hx => ?_⟩
    obtain ⟨i, hi, e⟩ := List.getElem_of_mem hx
    have := key.2 i (by omega)
    have e3 : ns.getD i 0 = x := by rw [List.getD_eq_getElem?_getD, List.getElem?_eq_getElem hi, e]; rfl
    simp only [hn, e3] at this
    omega
/-- the list's ints -/
def intsOf : List D → Option (List Int)
  | [] => some []
  | .int i :: l => (intsOf l).map (i :: ·)
  | _ => none
theorem intsOf_eq : ∀ {l : List D} {ns : List Int}, intsOf l = some ns → l = ns.map D.int
  | [], ns, h => by cases h; rfl
  | d :: l, ns, h => by
    cases d <;> first | (simp [intsOf] at h; done) | skip
    rename_i i
    simp only [intsOf, Option.map_eq_some_iff] at h
    obtain ⟨ms, h1, rfl⟩ := h
    rw [intsOf_eq h1]
    rfl
theorem reps_ints {H : Hp} : ∀ {ns : List Int} {vs : List V}, Reps K H (ns.map D.int) vs → vs = ns.map V.int
  | [], vs, h => h
  | n :: ns, vs, h => by
    obtain ⟨v, r, rfl, hv, hr⟩ := h
    have hv' : v = .int n := hv
    rw [hv', reps_ints hr]
    rfl
def fMinL : List D → (D → Prop) → Prop
  | [.lst l], R => ∃ ns, l = ns.map D.int ∧ ns ≠ [] ∧ ∀ m, m ∈ ns → (∀ x, x ∈ ns → m ≤ x) → R (.int m)
  | _, _ => False
def fMaxL : List D → (D → Prop) → Prop
  | [.lst l], R => ∃ ns, l = ns.map D.int ∧ ns ≠ [] ∧ ∀ m, m ∈ ns → (∀ x, x ∈ ns → x ≤ m) → R (.int m)
  | _, _ => False
theorem cd_minL : CaD K (rMinI K) fMinL := by
  intro pn n Hs H xs ds R Q sub pen r h kk
  unfold fMinL at h
  split at h
  · obtain ⟨ns, rfl, hne, q⟩ := h
    obtain ⟨v, rfl, rv⟩ := repsB1 r
    obtain ⟨a, vs, rfl, h2, h3⟩ := rv.list sub
    rw [reps_ints h3] at h2
    exact ⟨a, ns, rfl, SqL.of h2, hne, fun m hm hx => kk _ (.int m) Hs H (Gone.refl sub pen) rfl (q m hm hx)⟩
  · exact h.elim
theorem cd_maxL : CaD K (rMaxI K) fMaxL := by
  intro pn n Hs H xs ds R Q sub pen r h kk
  unfold fMaxL at h
  split at h
  · obtain ⟨ns, rfl, hne, q⟩ := h
    obtain ⟨v, rfl, rv⟩ := repsB1 r
    obtain ⟨a, vs, rfl, h2, h3⟩ := rv.list sub
    rw [reps_ints h3] at h2
    exact ⟨a, ns, rfl, SqL.of h2, hne, fun m hm hx => kk _ (.int m) Hs H (Gone.refl sub pen) rfl (q m hm hx)⟩
  · exact h.elim
end
/-- a comprehension whose test and element draw nothing -/
theorem lcL_fm {α : Type} {g : DG} {tt : DTT} {te : DT} {env : DEnv} {R : List D → Nat → Prop} {n : Nat} (f : α → D) (p : α → Bool) (h : α → D) : ∀ (xs : List α) (acc : List D),
    (∀ x, x ∈ xs → ∀ (T : D → Nat → Prop) (E : Nat → Prop), (p x = true → T (h x) n) → (p x = false → E n) → g (f x) env fun env' => tt env' n (fun b n1 => if b = true then te env' n1 T noX else E n1) noX) →
    xs.length + acc.length ≤ sizeLine → R (acc ++ (xs.filter p).map h) n → lcL g tt te env R (xs.map f) acc n
  | [], acc, _, _, hR => by
    have e : acc ++ (([] : List α).filter p).map h = acc := by simp
    rw [e] at hR
    exact hR
  | x :: xs, acc, hb, hl, hR => by
    have ih := fun acc' => lcL_fm (R := R) f p h xs acc' (fun y hy => hb y (List.mem_cons_of_mem _ hy))
    simp only [List.length_cons] at hl
    refine hb x List.mem_cons_self _ _ (fun hp => ⟨by omega, ih _ (by simp only [List.length_append, List.length_cons, List.length_nil]; omega) ?_⟩) (fun hp => ih _ (by omega) ?_)
    · rw [List.filter_cons_of_pos hp] at hR
      simpa using hR
    · rw [List.filter_cons_of_neg (by simp [hp])] at hR
      exact hR
/-- without a test -/
theorem lcL_map {α : Type} {g : DG} {te : DT} {env : DEnv} {R : List D → Nat → Prop} {n : Nat} (f : α → D) (h : α → D) (xs : List α)
    (hb : ∀ x, x ∈ xs → ∀ (T : D → Nat → Prop), T (h x) n → g (f x) env fun env' => te env' n T noX) (hl : xs.length ≤ 1000) (hR : R (xs.map h) n) : lcL g dYes te env R (xs.map f) [] n := by
  refine lcL_fm f (fun _ => true) h xs [] (fun x hx T E h1 _ => ?_) (by have := sz hl; simpa using this) (by rw [List.filter_eq_self.mpr (fun _ _ => rfl)]; exact hR)
  exact hb x hx T (h1 rfl)
theorem if_b {b : Bool} {A B : Prop} (h1 : b = true → A) (h2 : b = false → B) : if b = true then A else B := by
  cases b with
  | true => exact h1 rfl
  | false => exact h2 rfl
theorem if_nb {b : Bool} {A B : Prop} (h1 : b = false → A) (h2 : b = true → B) : if (!b) = true then A else B := by
  cases b with
  | true => exact h2 rfl
  | false => exact h1 rfl
theorem if_nd {c : Prop} [Decidable c] {A B : Prop} (h1 : ¬ c → A) (h2 : c → B) : if (!decide c) = true then A else B := if_nb (fun e => h1 (of_decide_eq_false e)) (fun e => h2 (of_decide_eq_true e))
end DL

/-! own ==, !=, bool, reflected operators -/
namespace DL
open PySem L2 PyProof.Rows

/-! ### at the library's level -/
section
variable {prog : Program} {w : World} {M : Model} {A : Around} {E : Value → Shared → Prop} {s : Shared} {K : PySem.W.Frag} {x C f : Addr} {ox : Obj} {od : Option Obj}
theorem ifBoundB {name : Str} {id : String} {args : List Value} {Q : Option Value → Shared → Prop} (X : K.In s.heap) (I : PySem.W.InstAt s.heap x ox C od) (hs : PySem.W.findIn K (.ref C) name = some (some (.builtin id)))
    (hb : ∀ self, bindSpecial (.builtin id) self = pure (.builtin id, [self])) (h : wpAny M A (call (.builtin id) (.ref x :: args)) (fun v => Q (some v)) E s) : wpAny M A (callSpecialIfBound? (.ref x) name args) Q E s := by
  simp only [callSpecialIfBound?, bindSpecialIfBound?]
  refine wpAny_holding (wpAny_bind (wpAny_bind (wpAny_bind (I.type.here ((PySem.W.looks_findIn X hs).here ?_)))))
  refine wpAny_bind (wpAny_askSetting (wpAny_ite ?_))
  have fin : wpAny M A (call (.builtin id) ([.ref x] ++ args) >>= fun v => pure (some v)) Q E s := wpAny_bind (wpAny_mono h (fun v s' h' => wpAny_pure h') fun _ _ h' => h')
  split
  · exact wpAny_bind ((PySem.W.Looks.of_pure (hb _)).here (wpAny_pure (by exact fin)))
  · exact wpAny_tryCatch (wpAny_bind ((PySem.W.Looks.of_pure (hb _)).here (wpAny_pure (by exact fin))))
theorem ne_slot : Slot "object" "__ne__" "object.__ne__" := Slot.of (T := "object") (name := "__ne__") (owner := "object") (n := "__ne__") (by rw [typeLookup_type, builtinLookup_eq_fast]; kernel_rfl) (by decide +kernel) (by decide +kernel) (by decide +kernel)
    (.inl (by decide +kernel)) (by rw [isSubtype_type]; kernel_rfl)
/-- x != b by the class's own __eq__ -/
theorem ne_K {b tb : Value} {Q : Value → Shared → Prop} (hu : A.units + 1 < cLine) (X : K.In s.heap) (I : PySem.W.InstAt s.heap x ox C od) (hb : PySem.W.Looks (model prog w) s.heap (typeOf b) tb) (hn : PySem.W.notFirst K C tb = true)
    (hne : PySem.W.findIn K (.ref C) "__ne__" = some (some (.builtin "object.__ne__"))) (hm : PySem.W.mroIn K C (.type "object") = some true) (hs : PySem.W.findIn K (.ref C) "__eq__" = some (some (.ref f))) (hf : PySem.W.isFn K (.ref f) = true)
    (h : wpAny (model prog w) A.in1 (call (.ref f) [.ref x, b]) (fun v s' => ∃ k, v = .bool k ∧ Q (.bool (!k)) s') E s) : wpAny (model prog w) A (richCompare .NotEq (.ref x) b) Q E s := by
  have one : wpAny (model prog w) A (tryCompare (.ref x) "__ne__" b) (fun r s' => ∃ v, r = some v ∧ Q v s') E s := by
    unfold tryCompare
    refine wpAny_bind (ifBoundB X I hne ne_slot.bind ?_)
    refine wpAny_call (codeAny_call_builtin ne_slot.plain PySem.F.cmpEntry_ne (PySem.W.check_slot (i := "object.__ne__") (owner := "object") (n := "__ne__") (by decide +kernel) (by decide +kernel) (I.type.andThen (PySem.W.looks_mroIn X hm)) (PySem.F.cmpArgs_ne _ _) ?_))
    unfold Builtin.«object.__ne__»
    refine wpAny_bind (m := slotArgs "__ne__" 1 _) (wpAny_pure ?_)
    refine wpAny_bind (m := cRoomFor _ _) (wpAny_cRoomFor hu ?_)
    refine wpAny_bind (m := callSpecialIfBound? (.ref x) (Str.ofString "__eq__") _) (PySem.W.ifBound_K X I hs hf (wpAny_mono h (fun r s' hr => ?_) fun _ _ y => y))
    obtain ⟨k, rfl, hq⟩ := hr
    refine wpAny_bind (m := truthy (.bool k)) (wpAny_truthy_bool (wpAny_pure ?_))
    exact wpAny_pure ⟨_, rfl, hq⟩
  unfold richCompare
  simp only [oneThing_ref]
  refine wpAny_holding (wpAny_bind (wpAny_cRoomFor (Nat.lt_of_succ_lt hu) ?_))
  refine wpAny_bind (I.type.here (wpAny_bind (hb.here ?_)))
  split
  · rename_i q
    have e : PySem.W.subIn K tb (.ref C) = some false := by
      rcases Bool.or_eq_true_iff.mp hn with e | e
      · rw [beq_iff_eq.mp e] at q; simp at q
      · exact beq_iff_eq.mp e
    refine wpAny_bind ((PySem.W.looks_subIn X e).here ?_)
    simp only [Bool.false_eq_true, if_false]
    refine wpAny_bind (wpAny_mono one (fun r s' z => ?_) fun _ _ e => e)
    obtain ⟨v, rfl, hq⟩ := z
    exact wpAny_pure hq
  · refine wpAny_bind (wpAny_pure ?_)
    simp only [Bool.false_eq_true, if_false]
    refine wpAny_bind (wpAny_mono one (fun r s' z => ?_) fun _ _ e => e)
    obtain ⟨v, rfl, hq⟩ := z
    exact wpAny_pure hq

/-- an int's own operator declines an instance -/
theorem int_no {nm : String} {g : Int → Int → Sem Fin} {i : Int} {t : Tok} {dx : Addr} {Q : Fin → Shared → Prop} (ho : s.heap.get? x = some (PySem.W.instObj C dx)) (h : Q (.done (.ret .notImplemented)) s) :
    wpAny M A (Builtin.Int.intBinary nm g false ⟨[.int i t, .ref x], []⟩) Q E s := by
  unfold Builtin.Int.intBinary
  refine wpAny_bind (m := slotArgs nm 1 _) (wpAny_pure ?_)
  refine wpAny_bind (wpAny_pure ?_)
  refine wpAny_bind (m := asInt? (.ref x)) ?_
  unfold asInt?
  refine wpAny_bind (wpAny_load ho ?_)
  exact wpAny_pure (wpAny_bind (wpAny_rule (wpAny_pure h)))

structure IntOp (op : Operator) : Prop where
  ex : ∃ (id nm : String) (g : Int → Int → Sem Fin), Slot "int" (PySem.dunder op.info.2) id ∧ fillsNumberSlot (.type "int") op.info.2 = pure true ∧ entryFor table id = some (Builtin.Int.intBinary nm g false) ∧ ∀ a b : Value, argsOk id ⟨[a, b], []⟩
theorem intop_add : IntOp .Add := ⟨_, _, _, PySem.F.slot_int_add, PySem.F.fills_int_add, PySem.F.entry_int_add, PySem.F.args_int_add_2⟩
theorem intop_sub : IntOp .Sub := ⟨_, _, _, PySem.F.slot_int_sub, PySem.F.fills_int_sub, PySem.F.entry_int_sub, PySem.F.args_int_sub_2⟩
theorem intop_mul : IntOp .Mult := ⟨_, _, _, PySem.F.slot_int_mul, PySem.F.fills_int_mul, PySem.F.entry_int_mul, PySem.F.args_int_mul_2⟩
/-- i op x by the class's reflected method -/
theorem refl_K {op : Operator} {i : Int} {t : Tok} {dx : Addr} {g : Addr} {Q : Value → Shared → Prop} (X : K.In s.heap) (I : PySem.W.InstAt s.heap x ox C od) (ho : s.heap.get? x = some (PySem.W.instObj C dx)) (hc : PySem.W.selfFirst K C = true)
    (O : IntOp op) (hs : PySem.W.findIn K (.ref C) (PySem.dunder op.info.2) = some (some (.ref g))) (hr : PySem.W.findIn K (.ref C) (dunderR op.info.2) = some (some (.ref f))) (hf : PySem.W.isFn K (.ref f) = true)
    (hsub : PySem.W.subIn K (.ref C) (.type "int") = some false)
    (h : wpAny (model prog w) A (call (.ref f) [.ref x, .int i t]) (PySem.W.CmpBack Q) E s) : wpAny (model prog w) A (binaryOp op (.int i t) (.ref x)) Q E s := by
  obtain ⟨cd, rest, hcd, hm⟩ := PySem.W.ksp_first hc
  obtain ⟨id, nm, gg, SI, fl, en, ar⟩ := O.ex
  rcases hi : op.info with ⟨sym, nm'⟩
  rw [hi] at hs hr SI fl
  dsimp only at hs hr SI fl
  have one := PySem.W.ksp_try X I hr hf h
  have two : wpAny (model prog w) A (tryMethod (.int i t) (PySem.dunder nm') (.ref x)) (fun r s' => r = none ∧ s' = s) E s := by
    unfold tryMethod
    refine wpAny_bind (wpAny_callSpecial?_slot (typeIs_int _ i t) SI (wpAny_call_entry SI (typeIs_int _ i t) en (int_no ho ⟨_, rfl, ?_⟩) (ar _ _)))
    exact wpAny_pure ⟨rfl, rfl⟩
  obtain ⟨hh, gs, d, tt, os⟩ := s
  have L1 : PySem.W.Looks (model prog w) hh (typeOf (.ref x)) (.ref C) := I.type
  have L2 : PySem.W.Looks (model prog w) hh (typeOf (.int i t)) (.type "int") := PySem.W.Looks.of_pure rfl
  have L3 : PySem.W.Looks (model prog w) hh (fillsNumberSlot (.ref C) nm') true := PySem.W.fills_K X hcd hm hs
  have L4 : PySem.W.Looks (model prog w) hh (fillsNumberSlot (.type "int") nm') true := PySem.W.Looks.of_pure fl
  have L5 : PySem.W.Looks (model prog w) hh (isSubtype (.ref C) (.type "int")) false := PySem.W.looks_subIn X hsub
  have L6 : PySem.W.Looks (model prog w) hh (numberSlotInPython (.type "int") nm') false := PySem.W.Looks.of_pure rfl
  have hne : (Value.type "int" == Value.ref C) = false := Bool.eq_false_iff.mpr fun q => by cases beq_iff_eq.mp q
  simp only [binaryOp, hi]
  refine wpAny_holding (wpAny_bind ?_)
  unfold binaryOp1
  refine wpAny_bind (L2.at (wpAny_bind (L1.at (wpAny_bind (L4.at ?_)))))
  simp only [hne, Bool.false_eq_true, if_false]
  ksp_lk
  refine wpAny_mono two (fun r s' hr' => ?_) fun _ _ e => e
  obtain ⟨rfl, rfl⟩ := hr'
  ksp_lk
  refine wpAny_mono one (fun r s' hr' => ?_) fun _ _ e => e
  obtain ⟨v, rfl, hq⟩ := hr'
  ksp_lk
  exact hq
end
end DL

namespace DL
open PySem L2 PyProof.Rows
section
variable {X : Cx} {B : Bs} {e a b c : Expr} {pos : Pos} {t ta tb : DT} {k : Nat} {ps : List Str} {sp : DSp} {C f : Addr} {fd : FuncData} {spv : Sp}
theorem looks_ty {pins : List (Addr × Obj)} {σ : L2.St} {H : Hp} {s : Shared} {x : V} {u t : Value} (I : Inv X pins σ H s) (r : RelV x u) (ty : TyX X.K H x t) : PySem.W.Looks (model X.prog X.w) s.heap (typeOf u) t := by
  obtain ⟨P, Z, p, _⟩ := kit_of I r ty
  exact Z.ty _ _ I.kIn p
/-- one builtin deeper -/
theorem run_fn1 {pins : List (Addr × Obj)} {σ : L2.St} {H : Hp} {s : Shared} {Q : VK} {us : List Value} {vs : List V} (F : FnOk X.prog X.w X.K X.mg X.base CX0 k f fd ps spv) (hr : Room (k + 1) X.A) (hb : Binds X.K fd ps [])
    (I : Inv X pins σ H s) (r : Vals vs us) (h : spv vs H Q E0) : wpAny (model X.prog X.w) X.A.in1 (call (.ref f) us) (EP X pins σ Q) X.xe s := by
  have hl : us.length = ps.length := by rw [← r.length]; exact F.len _ _ _ _ h
  have hb' := hb s us I.kIn (by simpa using hl)
  rw [List.append_nil] at hb'
  refine wpAny_call (codeAny_mono (F.run X.A.in1 X.stack s H ⟨us, []⟩ us vs Q E0 hr.in1 I.env0.in1 hb' r h) fun r s' hq => ?_)
  cases r with
  | error e => exact pass0 pins σ H s e s' I hq
  | ok fl =>
    cases fl with
    | ret u => exact I.after hq
    | next => exact False.elim hq
    | brk => exact False.elim hq
    | cont => exact False.elim hq
def rEqO (K : PySem.W.Frag) (C : Addr) (spv : Sp) : R2 := fun x y H Q => ∃ a dx fs t, x = .ref a ∧ H a = some (.ins C dx fs) ∧ TyX K H y t ∧ PySem.W.notFirst K C t = true ∧ spv [x, y] H Q E0
def rNeO (K : PySem.W.Frag) (C : Addr) (spv : Sp) : R2 := fun x y H Q => rEqO K C spv x y H fun v H' => ∃ k, v = .bl k ∧ Q (.bl (!k)) H'
theorem op_eqO (hs : PySem.W.findIn X.K (.ref C) "__eq__" = some (some (.ref f))) (hf : PySem.W.isFn X.K (.ref f) = true) (F : FnOk X.prog X.w X.K X.mg X.base CX0 k f fd ps spv) (hr : Room k X.A) (hb : Binds X.K fd ps []) : OpR X (compareOp .Eq) (rEqO X.K C spv) := by
  intro pins s σ H x y v u Q I rx ry h
  obtain ⟨a, dx, fs, t, rfl, ha, ty, hn, q⟩ := h
  cases rx
  obtain ⟨mA, O, _⟩ := ins_get I.hok ha
  obtain ⟨od, J, _⟩ := O.look
  obtain ⟨m, Fr⟩ := I.fr
  refine PySem.W.cmp_ofEq (PySem.W.cmp_K (op := .Eq) (by have := hr.un; omega) Fr I.mod.kin J (looks_ty I ry ty) hn hs hf ?_)
  exact thn (run_fn (us := [.ref a, u]) (vs := [.ref a, y]) (dvs := []) F hr hb .nil pass0 I (.cons rfl (.cons ry .nil)) q) fun r s' h' => cmpBack h'
structure EqC (K : PySem.W.Frag) (C : Addr) : Prop where
  ne : PySem.W.findIn K (.ref C) "__ne__" = some (some (.builtin "object.__ne__"))
  ob : PySem.W.mroIn K C (.type "object") = some true
theorem op_neO (E : EqC X.K C) (hs : PySem.W.findIn X.K (.ref C) "__eq__" = some (some (.ref f))) (hf : PySem.W.isFn X.K (.ref f) = true) (F : FnOk X.prog X.w X.K X.mg X.base CX0 k f fd ps spv) (hr : Room (k + 1) X.A) (hb : Binds X.K fd ps []) : OpR X (compareOp .NotEq) (rNeO X.K C spv) := by
  intro pins s σ H x y v u Q I rx ry h
  obtain ⟨a, dx, fs, t, rfl, ha, ty, hn, q⟩ := h
  cases rx
  obtain ⟨mA, O, _⟩ := ins_get I.hok ha
  obtain ⟨od, J, _⟩ := O.look
  refine PySem.W.cmp_ofNotEq (ne_K (by have := hr.un; omega) I.kIn J (looks_ty I ry ty) hn E.ne E.ob hs hf ?_)
  refine thn (run_fn1 (us := [.ref a, u]) (vs := [.ref a, y]) F hr hb I (.cons rfl (.cons ry .nil)) q) fun r s' h' => ?_
  obtain ⟨v, H', I', rv, j, rfl, q'⟩ := h'
  have rv' : r = .bool j := rv
  exact ⟨j, rv', .bl (!j), H', I', rfl, q'⟩
/-- the other side's type -/
def nfD (K : PySem.W.Frag) (C : Addr) (y : D) : Prop := ∃ t, tyD y = some t ∧ okCls K y ∧ PySem.W.notFirst K C t = true
def dEqO (K : PySem.W.Frag) (C : Addr) (sp : DSp) (ta tb : DT) : DT := fun env n R Rx => ta env n (fun x n1 => tb env n1 (fun y n2 => (clsIs C x ∧ nfD K C y) ∧ sp [x, y] n2 R noX) Rx) Rx
def dNeO (K : PySem.W.Frag) (C : Addr) (sp : DSp) (ta tb : DT) : DT := fun env n R Rx => ta env n (fun x n1 => tb env n1 (fun y n2 => (clsIs C x ∧ nfD K C y) ∧ sp [x, y] n2 (boolOf fun j n3 => R (.bl (!j)) n3) noX) Rx) Rx
theorem eqO_lift {σ : L2.St} {H : Hp} {Q : VK} (h : lift X.K B (dEqO X.K C sp ta tb) σ H Q) : tOp (rEqO X.K C (liftSp X.K B.pn sp)) (lift X.K B ta) (lift X.K B tb) σ H Q := by
  obtain ⟨Hs, env, n, R, Rx, I, ht, kk, kx⟩ := h
  refine ⟨Hs, env, n, _, Rx, I, ht, fun v o n1 Hs1 H1 g r q => ?_, kx⟩
  refine ⟨Hs1, env, n1, _, Rx, I.call g, q, fun v2 o2 n2 Hs2 H2 g2 r2 q2 => ?_, kx.on g⟩
  obtain ⟨⟨c1, t, c2, c3, c4⟩, q3⟩ := q2
  obtain ⟨a1, dx, ns, vs, ds, rfl, e1, rfl⟩ := clsIs_of c1 r
  refine ⟨a1, dx, _, t, rfl, g2.sub _ _ (g2.gr.sh _ _ e1), tyX_of g2.sub (Or.inl r2) c2 c3, c4, ?_⟩
  exact ⟨Hs2, n2, [_, o2], R, noX, g2.sub, g2.pen, ⟨_, _, rfl, r.mono g2.gr.sh, _, _, rfl, r2, rfl⟩, q3, fun v d n' Hs' H' g' r' q' => kk v d n' Hs' H' ((g.trans g2).trans g') r' q', fun _ _ _ _ _ _ _ _ z => z.elim⟩
theorem neO_lift {σ : L2.St} {H : Hp} {Q : VK} (h : lift X.K B (dNeO X.K C sp ta tb) σ H Q) : tOp (rNeO X.K C (liftSp X.K B.pn sp)) (lift X.K B ta) (lift X.K B tb) σ H Q := by
  obtain ⟨Hs, env, n, R, Rx, I, ht, kk, kx⟩ := h
  refine ⟨Hs, env, n, _, Rx, I, ht, fun v o n1 Hs1 H1 g r q => ?_, kx⟩
  refine ⟨Hs1, env, n1, _, Rx, I.call g, q, fun v2 o2 n2 Hs2 H2 g2 r2 q2 => ?_, kx.on g⟩
  obtain ⟨⟨c1, t, c2, c3, c4⟩, q3⟩ := q2
  obtain ⟨a1, dx, ns, vs, ds, rfl, e1, rfl⟩ := clsIs_of c1 r
  refine ⟨a1, dx, _, t, rfl, g2.sub _ _ (g2.gr.sh _ _ e1), tyX_of g2.sub (Or.inl r2) c2 c3, c4, ?_⟩
  refine ⟨Hs2, n2, [_, o2], _, noX, g2.sub, g2.pen, ⟨_, _, rfl, r.mono g2.gr.sh, _, _, rfl, r2, rfl⟩, q3, fun v d n' Hs' H' g' r' q' => ?_, fun _ _ _ _ _ _ _ _ z => z.elim⟩
  obtain ⟨j, rfl, q⟩ := bool_of r' q'
  exact ⟨j, rfl, kk _ (.bl (!j)) n' Hs' H' ((g.trans g2).trans g') rfl q⟩
theorem de_eqO (G : Me X.prog X.w X.K X.mg X.base CX0 B.pn k C "__eq__" ps sp) (hr : Room k X.A) (ha : PE X a (lift X.K B ta)) (hb : PE X b (lift X.K B tb)) (hm : behindInMarks .Eq b = false) :
    PE X (.Compare a [.Eq] [b] pos) (lift X.K B (dEqO X.K C sp ta tb)) := by
  obtain ⟨f, fd, F, hmm, hbd⟩ := G.ex
  exact pe_imp (pe_cmpR (op_eqO hmm.at_ hmm.fn F hr hbd) ha hb hm) fun σ H Q h => eqO_lift h
theorem de_neO (E : EqC X.K C) (G : Me X.prog X.w X.K X.mg X.base CX0 B.pn k C "__eq__" ps sp) (hr : Room (k + 1) X.A) (ha : PE X a (lift X.K B ta)) (hb : PE X b (lift X.K B tb)) (hm : behindInMarks .NotEq b = false) :
    PE X (.Compare a [.NotEq] [b] pos) (lift X.K B (dNeO X.K C sp ta tb)) := by
  obtain ⟨f, fd, F, hmm, hbd⟩ := G.ex
  exact pe_imp (pe_cmpR (op_neO E hmm.at_ hmm.fn F hr hbd) ha hb hm) fun σ H Q h => neO_lift h
theorem dt_eqO (G : Me X.prog X.w X.K X.mg X.base CX0 B.pn k C "__eq__" ps sp) (hr : Room k X.A) (ha : PE X a (lift X.K B ta)) (hb : PE X b (lift X.K B tb)) (hm : behindInMarks .Eq b = false) :
    PT X (.Compare a [.Eq] [b] pos) (liftT X.K B (dTest (dEqO X.K C sp ta tb))) := by
  obtain ⟨f, fd, F, hmm, hbd⟩ := G.ex
  refine pt_imp (pt_cmpR (op_eqO hmm.at_ hmm.fn F hr hbd) ha hb hm) fun σ H Q ⟨Hs, env, n, R, Rx, I, ht, kk, kx⟩ => ?_
  exact eqO_lift ⟨Hs, env, n, boolOf R, Rx, I, ht, fun v d n' Hs' H' g r h => by
    obtain ⟨j, e, q⟩ := bool_of r h
    exact ⟨j, e, kk j n' Hs' H' g q⟩, kx⟩
theorem dt_neO (E : EqC X.K C) (G : Me X.prog X.w X.K X.mg X.base CX0 B.pn k C "__eq__" ps sp) (hr : Room (k + 1) X.A) (ha : PE X a (lift X.K B ta)) (hb : PE X b (lift X.K B tb)) (hm : behindInMarks .NotEq b = false) :
    PT X (.Compare a [.NotEq] [b] pos) (liftT X.K B (dTest (dNeO X.K C sp ta tb))) := by
  obtain ⟨f, fd, F, hmm, hbd⟩ := G.ex
  refine pt_imp (pt_cmpR (op_neO E hmm.at_ hmm.fn F hr hbd) ha hb hm) fun σ H Q ⟨Hs, env, n, R, Rx, I, ht, kk, kx⟩ => ?_
  exact neO_lift ⟨Hs, env, n, boolOf R, Rx, I, ht, fun v d n' Hs' H' g r h => by
    obtain ⟨j, e, q⟩ := bool_of r h
    exact ⟨j, e, kk j n' Hs' H' g q⟩, kx⟩
/-! ### i op o by the reflected method -/
structure OpRf (K : PySem.W.Frag) (C : Addr) (op : Operator) : Prop where
  sf : PySem.W.selfFirst K C = true
  fo : ∃ g : Addr, PySem.W.findIn K (.ref C) (PySem.dunder op.info.2) = some (some (.ref g))
  sub : PySem.W.subIn K (.ref C) (.type "int") = some false
theorem op_rO {op : Operator} (O : OpRf X.K C op) (Oi : IntOp op) (hs : PySem.W.findIn X.K (.ref C) (dunderR op.info.2) = some (some (.ref f))) (hf : PySem.W.isFn X.K (.ref f) = true) (F : FnOk X.prog X.w X.K X.mg X.base CX0 k f fd ps spv) (hr : Room k X.A) (hb : Binds X.K fd ps []) :
    OpR X (binaryOp op) (fun x y H Q => ∃ i a dx fs, x = .int i ∧ y = .ref a ∧ H a = some (.ins C dx fs) ∧ spv [y, x] H Q E0) := by
  intro pins s σ H x y v u Q I rx ry h
  obtain ⟨i, a, dx, fs, rfl, rfl, ha, q⟩ := h
  cases ry
  obtain ⟨tk, rfl⟩ := rx
  obtain ⟨mA, O1, _⟩ := ins_get I.hok ha
  obtain ⟨od, J, _⟩ := O1.look
  obtain ⟨g, hg⟩ := O.fo
  refine refl_K I.kIn J J.at_ O.sf Oi hg hs hf O.sub ?_
  exact thn (run_fn (us := [.ref a, .int i tk]) (vs := [.ref a, .int i]) (dvs := []) F hr hb .nil pass0 I (.cons rfl (.cons ⟨tk, rfl⟩ .nil)) q) fun r s' h' => cmpBack h'
def dOpRf (C : Addr) (sp : DSp) (ta tb : DT) : DT := fun env n R Rx => ta env n (fun x n1 => tb env n1 (fun y n2 => (isIntD x ∧ clsIs C y) ∧ sp [y, x] n2 R noX) Rx) Rx
theorem de_opRf {op : Operator} {m : Str} (O : OpRf X.K C op) (Oi : IntOp op) (G : Me X.prog X.w X.K X.mg X.base CX0 B.pn k C m ps sp) (hm : dunderR op.info.2 = m) (hr : Room k X.A) (ha : PE X a (lift X.K B ta)) (hb : PE X b (lift X.K B tb)) :
    PE X (.BinOp a op b pos) (lift X.K B (dOpRf C sp ta tb)) := by
  subst hm
  obtain ⟨f, fd, F, hm, hbd⟩ := G.ex
  refine pe_imp (pe_op (op_rO O Oi hm.at_ hm.fn F hr hbd) ha hb) fun σ H Q ⟨Hs, env, n, R, Rx, I, ht, kk, kx⟩ => ?_
  refine ⟨Hs, env, n, _, Rx, I, ht, fun v o n1 Hs1 H1 g r q => ?_, kx⟩
  refine ⟨Hs1, env, n1, _, Rx, I.call g, q, fun v2 o2 n2 Hs2 H2 g2 r2 q2 => ?_, kx.on g⟩
  obtain ⟨⟨c1, c2⟩, q3⟩ := q2
  cases o <;> first | exact False.elim c1 | skip
  rename_i i
  have r' : v = .int i := r
  subst r'
  obtain ⟨a1, dx, ns, vs, ds, rfl, e1, rfl⟩ := clsIs_of c2 r2
  refine ⟨i, a1, dx, _, rfl, rfl, g2.sub _ _ e1, ?_⟩
  exact ⟨Hs2, n2, [_, .int i], R, noX, g2.sub, g2.pen, ⟨_, _, rfl, r2, _, _, rfl, rfl, rfl⟩, q3, fun v d n' Hs' H' g' r' q' => kk v d n' Hs' H' ((g.trans g2).trans g') r' q', fun _ _ _ _ _ _ _ _ z => z.elim⟩
end
end DL

/-! texts of ints, f-strings, dict displays, .get -/
namespace DL
open PySem L2 PyProof.Rows
section
variable {X : Cx} {B : Bs} {e a b c : Expr} {pos : Pos} {t ta tb tc : DT} {K : PySem.W.Frag}

theorem hu1 {k : Nat} {A : Around} (r : Room k A) : A.units + 1 < cLine := by have := r.un; omega
/-! ### f-strings -/
def fFmt : D → (D → Prop) → Prop
  | .str y, R => y.length ≤ sizeLine ∧ R (.str y)
  | .int i, R => i.natAbs.log2 < 1920 ∧ R (.str (toString i))
  | _, _ => False
theorem de_fmt (h : PE X e (lift X.K B t)) : PE X (.FormattedValue e (-1) none pos) (lift X.K B (dUn fFmt t)) := pe_imp (pe_fmt h) fun σ H Q ⟨Hs, env, n, R, Rx, I, ht, k, kx⟩ =>
  ⟨Hs, env, n, _, Rx, I, ht, fun x dx n1 Hs1 H1 g1 r1 h1 => by
    cases dx <;> first | exact False.elim h1 | skip
    · rename_i i
      have r1' : x = .int i := r1
      subst r1'
      exact Or.inr ⟨i, rfl, h1.1, k _ (.str _) n1 Hs1 H1 g1 rfl h1.2⟩
    · rename_i y
      have r1' : x = .str y := r1
      subst r1'
      exact Or.inl ⟨y, rfl, h1.1, k _ (.str _) n1 Hs1 H1 g1 rfl h1.2⟩, kx⟩
def strOf (R : Str → Nat → Prop) : DR := fun d n => match d with
  | .str y => R y n
  | _ => False
theorem str_of {K : PySem.W.Frag} {Hs : Hp} {d : D} {v : V} {n : Nat} {R : Str → Nat → Prop} (r : Rep K Hs d v) (h : strOf R d n) : ∃ y, v = .str y ∧ R y n := by
  cases d <;> first | exact False.elim h | skip
  exact ⟨_, r, h⟩
def dJs : List DT → Str → DEnv → Nat → (Str → Nat → Prop) → DXR → Prop
  | [], acc, _, n, R, _ => R acc n
  | t :: ts, acc, env, n, R, Rx => t env n (strOf fun y n1 => (acc ++ y).length ≤ sizeLine ∧ dJs ts (acc ++ y) env n1 R Rx) Rx
def dJoin (ts : List DT) : DT := fun env n R Rx => dJs ts Str.empty env n (fun y n1 => R (.str y) n1) Rx
theorem js_lift : ∀ (ts : List DT) (acc : Str) (Hs H : Hp) (env : DEnv) (n : Nat) (σ : L2.St) (R : Str → Nat → Prop) (Rx : DXR) (Q : Str → Hp → Prop), DI K B env n σ Hs H → dJs ts acc env n R Rx →
    (∀ y n' Hs' H', Gone B.pn n' Hs H Hs' H' → R y n' → Q y H') → CoX K B σ Hs H Rx → tJs (ts.map (lift K B)) acc σ H Q
  | [], acc, Hs, H, env, n, σ, R, Rx, Q, I, h, k, kx => k acc n Hs H (Gone.refl I.sub I.pn) h
  | t :: ts, acc, Hs, H, env, n, σ, R, Rx, Q, I, h, k, kx => ⟨Hs, env, n, _, Rx, I, h, fun v d n1 Hs1 H1 g r q => by
    obtain ⟨y, rfl, q1, q2⟩ := str_of r q
    exact ⟨y, rfl, q1, js_lift ts (acc ++ y) Hs1 H1 env n1 σ R Rx Q (I.call g) q2 (fun y n' Hs' H' g' => k y n' Hs' H' (g.trans g')) (kx.on g)⟩, kx⟩
theorem dj_nil : PJ X [] (([] : List DT).map (lift X.K B)) := .nil
theorem dj_cons {es : List Expr} {ts : List DT} (h : PE X e (lift X.K B t)) (r : PJ X es (ts.map (lift X.K B))) : PJ X (e :: es) ((t :: ts).map (lift X.K B)) := .cons h r
theorem de_join {v1 v2 : Expr} {rest : List Expr} {ts : List DT} (h : PJ X (v1 :: v2 :: rest) (ts.map (lift X.K B))) : PE X (.JoinedStr (v1 :: v2 :: rest) pos) (lift X.K B (dJoin ts)) :=
  pe_imp (pe_joined h) fun σ H Q ⟨Hs, env, n, R, Rx, I, ht, k, kx⟩ => js_lift ts Str.empty Hs H env n σ _ Rx _ I ht (fun y n' Hs' H' g q => k _ (.str y) n' Hs' H' g rfl q) kx
theorem de_join1 (h : PE X e (lift X.K B t)) : PE X (.JoinedStr [e] pos) (lift X.K B t) := pe_joined1 h
def fStr : List D → (D → Prop) → Prop
  | [.int i], R => i.natAbs.log2 < 1920 ∧ R (.str (toString i))
  | _, _ => False
theorem cd_str : CaD K (fun xs H Q => ∃ i, xs = [.int i] ∧ i.natAbs.log2 < 1920 ∧ Q (.str (toString i)) H) fStr := by
  intro pn n Hs H xs ds R Q sub pen r h k
  unfold fStr at h
  split at h
  · obtain ⟨v, rfl, rv⟩ := repsB1 r
    cases int_v rv
    exact ⟨_, rfl, h.1, k _ (.str _) Hs H (Gone.refl sub pen) rfl h.2⟩
  · exact h.elim

/-! ### a, b, c = x, y, z -/
def onThree (P : D → D → D → Prop) : List D → Prop
  | [d, d', d''] => P d d' d''
  | _ => False
def dPar3 (i j l : Nat) (tA : DTA) : DS := fun Dd env n => tA env n (fun ds n1 => onThree (fun d d' d'' => Dd.nx (((env.set i (.sh d)).set j (.sh d')).set l (.sh d'')) n1) ds) (fun x n1 => Dd.ex x env n1)
theorem ds_par3 (i j l : Nat) {tA : DTA} {st : Stmt} (h : PS X st (tPar3 i j l (liftA X.K B tA))) : PS X st (liftS X.K B (dPar3 i j l tA)) := ps_imp h fun D σ H ⟨Hs, env, n, Dd, I, h, L⟩ =>
  ⟨Hs, env, n, _, _, I, h, fun vs ds n1 Hs1 H1 g r q => by
    unfold onThree at q
    split at q
    · rename_i d d' d''
      obtain ⟨v, r', rfl, r1, rr⟩ := r
      obtain ⟨v', v'', rfl, r2, r3⟩ := reps2 rr
      exact ⟨v, v', v'', rfl, L.nx _ n1 _ Hs1 H1 g.gr.sh ((((I.call g).set r1).set r2).set r3) q⟩
    · exact q.elim, L.cox I⟩

/-! ### dict displays -/
def keyOf : D → Option Key
  | .int i => some (Sum.inl i)
  | .str x => some (Sum.inr x)
  | _ => none
def keysOf : List D → Option (List Key)
  | [] => some []
  | d :: l => match keyOf d, keysOf l with
    | some k, some ks => some (k :: ks)
    | _, _ => none
theorem keyOf_v {Hs : Hp} {d : D} {v : V} {k : Key} (r : Rep K Hs d v) (h : keyOf d = some k) : v = kV k := by
  cases d <;> cases h
  · exact r
  · exact r
def dPairs : List (DT × DT) → DEnv → Nat → (List D → List D → Nat → Prop) → DXR → Prop
  | [], _, n, R, _ => R [] [] n
  | (tk, tv) :: r, env, n, R, Rx => tk env n (fun x n1 => tv env n1 (fun y n2 => dPairs r env n2 (fun xs ys n3 => R (x :: xs) (y :: ys) n3) Rx) Rx) Rx
def dDisp (prs : List (DT × DT)) : DT := fun env n R Rx => dPairs prs env n (fun xs ys n1 => xs.length = ys.length ∧ ∃ ks, keysOf xs = some ks ∧ ks.length ≤ 15 ∧ ks.Nodup ∧ R (.dct ks ys) n1) Rx
theorem pairs_lift : ∀ (prs : List (DT × DT)) (Hs H : Hp) (env : DEnv) (n : Nat) (σ : L2.St) (R : List D → List D → Nat → Prop) (Rx : DXR) (Q : List (V × V) → Hp → Prop), DI K B env n σ Hs H → dPairs prs env n R Rx →
    (∀ vs us xs ys n' Hs' H', Gone B.pn n' Hs H Hs' H' → Reps K Hs' xs vs → Reps K Hs' ys us → R xs ys n' → Q (vs.zip us) H') → CoX K B σ Hs H Rx → tPairs (prs.map fun p => (lift K B p.1, lift K B p.2)) σ H Q
  | [], Hs, H, env, n, σ, R, Rx, Q, I, h, k, kx => k [] [] [] [] n Hs H (Gone.refl I.sub I.pn) rfl rfl h
  | (tk, tv) :: prs, Hs, H, env, n, σ, R, Rx, Q, I, h, k, kx => ⟨Hs, env, n, _, Rx, I, h, fun v d n1 Hs1 H1 g r q => ⟨Hs1, env, n1, _, Rx, I.call g, q, fun v2 d2 n2 Hs2 H2 g2 r2 q2 =>
      pairs_lift prs Hs2 H2 env n2 σ _ Rx _ ((I.call g).call g2) q2 (fun vs us xs ys n' Hs' H' g' rx ry q' => k (v :: vs) (v2 :: us) (d :: xs) (d2 :: ys) n' Hs' H' ((g.trans g2).trans g') ⟨_, _, rfl, (r.mono g2.gr.sh).mono g'.gr.sh, rx⟩ ⟨_, _, rfl, r2.mono g'.gr.sh, ry⟩ q') ((kx.on g).on g2), kx.on g⟩, kx⟩
theorem dps_nil : PPs X pos [] [] (([] : List (DT × DT)).map fun p => (lift X.K B p.1, lift X.K B p.2)) := pps_nil
theorem dps_cons {k v : Expr} {ks : List (Option Expr)} {vs : List Expr} {tk tv : DT} {prs : List (DT × DT)} (hk : PE X k (lift X.K B tk)) (hv : PE X v (lift X.K B tv)) (hr : PPs X pos ks vs (prs.map fun p => (lift X.K B p.1, lift X.K B p.2))) :
    PPs X pos (some k :: ks) (v :: vs) (((tk, tv) :: prs).map fun p => (lift X.K B p.1, lift X.K B p.2)) := pps_cons hk hv hr
theorem Gone.lay {pn : Option Addr} {n1 : Nat} {Hs H Hs1 H1 : Hp} {p : Addr} {o o' : HO} (g : Gone pn n1 Hs (upd H p o) Hs1 H1) (hp : H p = none) (sub : Same Hs H) (hs1 : Hs1 p = none) (hq : ∀ q, pn = some q → q ≠ p) : Gone pn n1 Hs H (upd Hs1 p o') (upd H1 p o') := by
  refine ⟨⟨fun a u e => ?_, fun a u hm e => ?_, fun a e => ?_, fun a e z => ?_, fun q ca r e => ?_⟩, fun a u e => ?_, fun q hq' => ?_⟩
  · rw [upd_ne (ne_of_none e (sub.free hp))]; exact g.gr.sh a u e
  · rw [upd_ne (ne_of_none e hp)]; exact g.gr.ex a u hm (by rw [upd_ne (ne_of_none e hp)]; exact e)
  · have ha : a ≠ p := by rintro rfl; exact e hp
    rw [upd_ne ha]; exact g.gr.al a (by rw [upd_ne ha]; exact e)
  · have ha : a ≠ p := by rintro rfl; exact e hp
    rw [upd_ne ha]; exact g.gr.fr a (by rw [upd_ne ha]; exact e) z
  · have ha : q ≠ p := ne_of_none e hp
    obtain ⟨r', h'⟩ := g.gr.pc q ca r (by rw [upd_ne ha]; exact e)
    exact ⟨r', by rw [upd_ne ha]; exact h'⟩
  · by_cases h : a = p
    · subst h; rw [upd_same] at e ⊢; exact e
    · rw [upd_ne h] at e ⊢; exact g.sub a u e
  · obtain ⟨ca, ns, k, l, h1, h2, h3, h4⟩ := g.pen q hq'
    have hqp := hq q hq'
    have hc : ca ≠ p := by rintro rfl; rw [hs1] at h3; cases h3
    exact ⟨ca, ns, k, l, by rw [upd_ne hqp]; exact h1, by rw [upd_ne hqp]; exact h2, by rw [upd_ne hc]; exact h3, h4⟩
theorem mergeK_new : ∀ (more kvs : List (Key × V)), ((kvs ++ more).map (·.1)).Nodup → mergeK kvs more = kvs ++ more
  | [], kvs, _ => by simp [mergeK]
  | p :: more, kvs, h => by
    have hp : (kvs.any fun kv => decide (kv.1 = p.1)) = false := by
      rw [List.any_eq_false]
      intro kv hkv
      simp only [decide_eq_true_eq]
      intro e
      rw [List.map_append, List.nodup_append] at h
      exact h.2.2 kv.1 (List.mem_map_of_mem hkv) p.1 (by simp) e
    have e1 : putK kvs p.1 p.2 = kvs ++ [p] := by
      unfold putK
      rw [hp]
      rfl
    have ih := mergeK_new more (kvs ++ [p]) (by simpa using h)
    show mergeK (putK kvs p.1 p.2) more = _
    rw [e1, ih]
    simp
theorem keysOf_v {Hs : Hp} : ∀ {xs : List D} {vs : List V} {ks : List Key}, Reps K Hs xs vs → keysOf xs = some ks → vs = ks.map kV
  | [], _, _, r, h => by cases r; cases h; rfl
  | d :: l, vs, ks, r, h => by
    obtain ⟨v, r', rfl, rv, rr⟩ := r
    unfold keysOf at h
    cases e1 : keyOf d with
    | none => rw [e1] at h; cases h
    | some k =>
      cases e2 : keysOf l with
      | none => rw [e1, e2] at h; cases h
      | some ks' =>
        rw [e1, e2] at h
        cases h
        rw [List.map_cons, keyOf_v rv e1, keysOf_v rr e2]
theorem zip_kv : ∀ {ks : List Key} {us : List V}, (ks.map kV).zip us = (ks.zip us).map fun kv => (kV kv.1, kv.2)
  | [], _ => rfl
  | _ :: _, [] => rfl
  | k :: ks, u :: us => by simp [zip_kv (ks := ks) (us := us)]
theorem zip_fst : ∀ {ks : List Key} {us : List V}, ks.length = us.length → (ks.zip us).map (·.1) = ks
  | [], [], _ => rfl
  | [], _ :: _, h => by simp at h
  | _ :: _, [], h => by simp at h
  | k :: ks, u :: us, h => by
    have h' : ks.length = us.length := by simpa using h
    simp only [List.zip_cons_cons, List.map_cons, zip_fst h']
theorem keysOf_len : ∀ {xs : List D} {ks : List Key}, keysOf xs = some ks → xs.length = ks.length
  | [], _, h => by cases h; rfl
  | d :: l, ks, h => by
    unfold keysOf at h
    cases e1 : keyOf d with
    | none => rw [e1] at h; cases h
    | some k =>
      cases e2 : keysOf l with
      | none => rw [e1, e2] at h; cases h
      | some ks' =>
        rw [e1, e2] at h
        cases h
        simp [keysOf_len e2]
theorem de_disp {keys : List (Option Expr)} {values : List Expr} {prs : List (DT × DT)} (h : PPs X pos keys values (prs.map fun p => (lift X.K B p.1, lift X.K B p.2))) (hall : keys.all (·.isSome) = true) (hl : keys.length = values.length) (h0 : keys ≠ [])
    (h15 : keys.length ≤ 15) : PE X (.Dict keys values pos) (lift X.K B (dDisp prs)) :=
  pe_imp (pe_disp h hall hl h0 h15) fun σ H Q ⟨Hs, env, n, R, Rx, I, ht, k, kx⟩ p hp => by
    have g0 : Gone B.pn n Hs H Hs (upd H p (.dK [])) := Gone.own I.sub hp I.pn
    have hnp : ∀ q, B.pn = some q → q ≠ p := fun q hq => by
      rintro rfl
      obtain ⟨_, _, _, _, e', _⟩ := I.pn q hq
      rw [hp] at e'; cases e'
    refine pairs_lift prs Hs (upd H p (.dK [])) env n σ _ Rx _ (I.call g0) ht (fun vs us xs ys n' Hs' H' g rx ry q => ?_) (kx.on g0)
    obtain ⟨q0, ks, q1, q2, q3, q4⟩ := q
    have ev := keysOf_v rx q1
    subst ev
    have hlen : ks.length = us.length := by rw [← ry.length, ← q0, keysOf_len q1]
    have e1 : H' p = some (.dK []) := g.gr.ex p _ (by
      intro hm
      cases hpn : B.pn with
      | none => rw [hpn] at hm; simp at hm
      | some z =>
        rw [hpn] at hm
        have : p = z := by simpa using hm
        exact hnp z hpn this.symm) upd_same
    have e2 : Hs' p = none := g.gr.fr p (by rw [upd_same]; simp) (I.sub.free hp)
    refine ⟨e1, ks.zip us, zip_kv, ?_, ?_⟩
    · rw [List.length_zip, hlen, Nat.min_self, ← hlen]; exact q2
    · rw [mergeK_new _ _ (by rw [List.nil_append, zip_fst hlen]; exact q3), List.nil_append]
      have ss : Same Hs' (upd Hs' p (.dK (ks.zip us))) := fun b o e => by rw [upd_ne (ne_of_none e e2)]; exact e
      exact k (.ref p) (.dct ks ys) n' (upd Hs' p (.dK (ks.zip us))) _ (g.lay hp I.sub e2 hnp) ⟨p, us, rfl, upd_same, hlen, ry.mono ss⟩ q4
/-! ### d.get(k, x) -/
def getD (k : Key) : List Key → List D → Option D
  | x :: ks, d :: ds => if x = k then some d else getD k ks ds
  | _, _ => none
theorem getD_rep {Hs : Hp} {k : Key} : ∀ {ks : List Key} {ds : List D} {vs : List V}, Reps K Hs ds vs → (∀ d, getD k ks ds = some d → ∃ v, valV (ks.zip vs) k = some v ∧ Rep K Hs d v) ∧ (getD k ks ds = none → valV (ks.zip vs) k = none)
  | [], ds, vs, r => ⟨fun d h => (nomatch h), fun _ => rfl⟩
  | x :: ks, [], vs, r => by
    cases r
    exact ⟨fun d h => (nomatch h), fun _ => rfl⟩
  | x :: ks, d0 :: ds, vs, r => by
    obtain ⟨v, r', rfl, rv, rr⟩ := r
    obtain ⟨i1, i2⟩ := getD_rep (k := k) (ks := ks) rr
    rw [List.zip_cons_cons]
    by_cases h : x = k
    · refine ⟨fun d e => ⟨v, valV_pos h, ?_⟩, fun e => ?_⟩
      · simp only [getD, if_pos h] at e
        cases e
        exact rv
      · simp only [getD, if_pos h] at e
        cases e
    · have e0 : valV ((x, v) :: ks.zip r') k = valV (ks.zip r') k := by
        unfold valV
        rw [List.find?_cons_of_neg (by simpa using h)]
      rw [e0]
      refine ⟨fun d e => i1 d ?_, fun e => i2 ?_⟩
      · simpa only [getD, if_neg h] using e
      · simpa only [getD, if_neg h] using e
def dctOf (P : List Key → List D → Prop) : D → Prop
  | .dct ks ds => P ks ds
  | _ => False
def dGet2 (td ty tx : DT) : DT := fun env n R Rx => td env n (fun d n1 => dctOf (fun ks ds => ty env n1 (fun y n2 => tx env n2 (fun z n3 => ∃ k, keyOf y = some k ∧ R ((getD k ks ds).getD z) n3) Rx) Rx) d) Rx
theorem de_get2 {o f : Expr} {apos cpos : Pos} {td ty tx : DT} (hu : X.A.units + 1 < cLine) (ho : PE X o (lift X.K B td)) (he : PE X e (lift X.K B ty)) (hf : PE X f (lift X.K B tx)) (m : M2 X o "get" apos e f cpos) :
    PE X (.Call (.Attribute o "get" apos) [e, f] [] cpos) (lift X.K B (dGet2 td ty tx)) :=
  pe_imp (pe_dget2 hu ho he hf m) fun σ H Q ⟨Hs, env, n, R, Rx, I, ht, kk, kx⟩ =>
  ⟨Hs, env, n, _, Rx, I, ht, fun v d n1 Hs1 H1 g1 r1 q => by
    cases d <;> first | exact False.elim q | skip
    rename_i ks ds
    obtain ⟨a, vs, rfl, h2, h3, h4⟩ := r1
    refine ⟨a, rfl, Or.inl ⟨_, Or.inl (g1.sub _ _ h2)⟩, Hs1, env, n1, _, Rx, I.call g1, q, fun y dy n2 Hs2 H2 g2 r2 q2 => ?_, kx.on g1⟩
    refine ⟨Hs2, env, n2, _, Rx, (I.call g1).call g2, q2, fun z dz n3 Hs3 H3 g3 r3 q3 => ?_, (kx.on g1).on g2⟩
    obtain ⟨k, e1, q4⟩ := q3
    have ey := keyOf_v r2 e1
    subst ey
    have hd : H3 a = some (.dK (ks.zip vs)) := g3.sub _ _ (g3.gr.sh _ _ (g2.gr.sh _ _ h2))
    have h4' := (h4.mono g2.gr.sh).mono g3.gr.sh
    obtain ⟨i1, i2⟩ := getD_rep (k := k) (ks := ks) h4'
    refine ⟨_, DGet.k hd, ?_⟩
    cases eg : getD k ks ds with
    | none =>
      rw [i2 eg]
      rw [eg] at q4
      exact kk z dz n3 Hs3 H3 ((g1.trans g2).trans g3) r3 q4
    | some w =>
      obtain ⟨v, hv, rv⟩ := i1 w eg
      rw [hv]
      rw [eg] at q4
      exact kk v w n3 Hs3 H3 ((g1.trans g2).trans g3) rv q4, kx⟩
end
end DL

/-! texts: lengths, signs -/
namespace DL
open PySem L2 PyProof.Rows
theorem slen_app (a b : Str) : (a ++ b).length = a.length + b.length := by
  show (a.cps ++ b.cps).size = a.cps.size + b.cps.size
  exact Array.size_append
theorem empty_app (a : Str) : Str.empty ++ a = a := by
  show (⟨#[] ++ a.cps⟩ : Str) = a
  rw [Array.empty_append]
theorem log_of {k : Nat} {a : Int} (h : Bd k a) (hk : k ≤ 1920) (hk0 : 0 < k) : a.natAbs.log2 < 1920 := by
  by_cases h0 : a.natAbs = 0
  · rw [h0]; decide
  · rw [Nat.log2_lt h0]
    exact Nat.lt_of_lt_of_le h (Nat.pow_le_pow_right (by decide) hk)
theorem len_int {a : Int} (h : a.natAbs.log2 < 1920) : (toString a : Str).length ≤ 1921 := int_text_len_1921 h
theorem ok_app {a b : Str} (ha : PyData.strOk a = true) (hb : PyData.strOk b = true) : PyData.strOk (a ++ b) = true := by
  unfold PyData.strOk at *
  show (a.cps ++ b.cps).all _ = true
  rw [Array.all_append, ha, hb]
  rfl
theorem ok_ofString (s : String) : PyData.strOk (Str.ofString s) = true := by
  unfold PyData.strOk
  rw [← Array.all_toList, signs_ofString, List.all_eq_true]
  intro x hx
  obtain ⟨c, _, rfl⟩ := List.mem_map.mp hx
  have h : c.toNat < 0x110000 := by
    have hv := c.valid
    show c.val.toNat < 0x110000
    unfold UInt32.isValidChar Nat.isValidChar at hv
    omega
  exact decide_eq_true h
theorem ok_int (a : Int) : PyData.strOk (toString a : Str) = true := ok_ofString _
theorem pl_str {k : Nat} {x : Str} (h : PyData.strOk x = true) : plain k (.str x) = true := by cases k <;> exact h
theorem dn_self {x : Str} : (deq (.str x) (.str x) == false) = false := by
  show ((x == x) == false) = false
  simp
end DL

namespace DL
open PySem L2 PyProof.Rows
def eqCB (K : PySem.W.Frag) (C : Addr) : Bool := decide (PySem.W.findIn K (.ref C) "__ne__" = some (some (.builtin "object.__ne__"))) && decide (PySem.W.mroIn K C (.type "object") = some true)
theorem eqCB_ok {K : PySem.W.Frag} {C : Addr} (h : eqCB K C = true) : EqC K C := by
  unfold eqCB at h
  rw [Bool.and_eq_true] at h
  exact ⟨of_decide_eq_true h.1, of_decide_eq_true h.2⟩
def isRef : Option (Option Value) → Bool
  | some (some (.ref _)) => true
  | _ => false
theorem isRef_ok {o : Option (Option Value)} (h : isRef o = true) : ∃ g : Addr, o = some (some (.ref g)) := by
  unfold isRef at h
  split at h
  · exact ⟨_, rfl⟩
  · cases h
def rfCB (K : PySem.W.Frag) (C : Addr) (op : Operator) : Bool := PySem.W.selfFirst K C && (isRef (PySem.W.findIn K (.ref C) (PySem.dunder op.info.2)) && decide (PySem.W.subIn K (.ref C) (.type "int") = some false))
theorem rfCB_ok {K : PySem.W.Frag} {C : Addr} {op : Operator} (h : rfCB K C op = true) : OpRf K C op := by
  unfold rfCB at h
  rw [Bool.and_eq_true, Bool.and_eq_true] at h
  exact ⟨h.1, isRef_ok h.2.1, of_decide_eq_true h.2.2⟩
end DL

namespace Lk07
open PySem L2 PyProof.Rows DL
/-! ### what the defs promise -/
abbrev line (C : Addr) (a b : Int) : D := .obj C ["slope", "height"] [.int a, .int b]
/-- what stands in the place of a line -/
inductive LA where
  | l (a b : Int)
  | i (k : Int)
def LA.d (C : Addr) : LA → D
  | .l a b => line C a b
  | .i k => .int k
def LA.sl : LA → Int
  | .l a _ => a
  | .i _ => 0
def LA.ht : LA → Int
  | .l _ b => b
  | .i k => k
def pr (a b : Int) : D := .tup [.int a, .int b]
def sp_value_at (C : Addr) : DSp := fun ds n R _ => ∃ a b x, ds = [line C a b, .int x] ∧ IntMulOk a x ∧ R (.int (a * x + b)) n
def sp_Line___init__ : DSpI := fun ds n R _ => ∃ x y, ds = [x, y] ∧ R ["slope", "height"] [x, y] n
def sp_Line___call__ (C : Addr) : DSp := sp_value_at C
def sp_Line___eq__ (C : Addr) : DSp := fun ds n R _ => ∃ a b y, ds = [line C a b, y] ∧ ((∃ c d, y = line C c d ∧ R (.bl (decide (a = c) && decide (b = d))) n) ∨ ∃ l, y = .tup l ∧ R (.bl false) n)
def sp_line_of (C : Addr) : DSp := fun ds n R _ => ∃ y : LA, ds = [y.d C] ∧ R (line C y.sl y.ht) n
def sp_Line___add__ (C : Addr) : DSp := fun ds n R _ => ∃ a b, ∃ y : LA, ds = [line C a b, y.d C] ∧ R (line C (a + y.sl) (b + y.ht)) n
def sp_Line___radd__ (C : Addr) : DSp := fun ds n R _ => ∃ a b k, ds = [line C a b, .int k] ∧ R (line C (a + 0) (b + k)) n
def sp_Line___sub__ (C : Addr) : DSp := fun ds n R _ => ∃ a b, ∃ y : LA, ds = [line C a b, y.d C] ∧ R (line C (a - y.sl) (b - y.ht)) n
def sp_Line___neg__ (C : Addr) : DSp := fun ds n R _ => ∃ a b, ds = [line C a b] ∧ R (line C (-a) (-b)) n
def sp_Line___rsub__ (C : Addr) : DSp := fun ds n R _ => ∃ a b k, ds = [line C a b, .int k] ∧ R (line C (-a + 0) (-b + k)) n
def sp_Line___mul__ (C : Addr) : DSp := fun ds n R _ => ∃ a b k, ds = [line C a b, .int k] ∧ IntMulOk a k ∧ IntMulOk b k ∧ R (line C (a * k) (b * k)) n
def sp_Line___rmul__ (C : Addr) : DSp := sp_Line___mul__ C
def sp_Line_moved (C : Addr) : DSp := fun ds n R _ => ∃ a b k, ds = [line C a b, .int k] ∧ IntMulOk a k ∧ R (line C a (b - a * k)) n
def sp_Line_mirrored (C : Addr) : DSp := fun ds n R _ => ∃ a b k, ds = [line C a b, .int k] ∧ IntMulOk a k ∧ R (line C (-a) (b + a * k)) n
/-- a line's text -/
def hdT (a : Int) : Str := if a = 1 then "x" else if a = -1 then "-x" else (toString a : Str) ++ (" x" : Str)
def ltext (a b : Int) : Str := if a = 0 then toString b else if b = 0 then hdT a else if 0 < b then (hdT a ++ (" + " : Str)) ++ (toString b : Str) else (hdT a ++ (" - " : Str)) ++ (toString (-b) : Str)
def sp_Line_text (C : Addr) : DSp := fun ds n R _ => ∃ a b, ds = [line C a b] ∧ Bd 1000 a ∧ Bd 1000 b ∧ R (.str (ltext a b)) n
def sp__law_pick (p : Addr) : DSp := fun ds n R _ => ∃ l, ds = [.ref p, .lst l] ∧ (0 < l.length ∧ l.length ≤ 1000 ∧ n < LIM) ∧ ∀ d, d ∈ l → R d (n + 1)
def sp__law_spot (p : Addr) : DSp := fun ds n R _ => ds = [.ref p] ∧ n + 2 ≤ LIM ∧ ∀ v : Int, 0 ≤ v → v ≤ 10 ^ 30 → R (.int v) (n + 2)
def sp__law_whole (p : Addr) : DSp := fun ds n R _ => ds = [.ref p] ∧ n + 3 ≤ LIM ∧ ∀ v : Int, -(10 ^ 30) < v → v < 10 ^ 30 → R (.int v) (n + 3)
def sp__law_line (p : Addr) : DSp := fun ds n R _ => ds = [.ref p] ∧ n + 6 ≤ LIM ∧ ∀ a b : Int, -(10 ^ 9) ≤ a → a ≤ 10 ^ 9 → -(10 ^ 30) < b → b < 10 ^ 30 → R (.tup [.int a, .int b]) (n + 6)
def sp__law_worth : DSp := fun ds n R _ => ∃ a b x, ds = [.tup [.int a, .int b], .int x] ∧ IntMulOk a x ∧ R (.int (a * x + b)) n
def sp__law_line_text : DSp := fun ds n R _ => ∃ a b, ds = [.tup [.int a, .int b]] ∧ Bd 1000 a ∧ Bd 1000 b ∧ R (.str (ltext a b)) n
def sp__law_is (C : Addr) : DSp := fun ds n R _ => ∃ a b c d, ds = [line C a b, .tup [.int c, .int d]] ∧ (a = c ∧ b = d) ∧ R (.bl true) n

def top (i : Nat) : Stmt := PySem.Challenge.pw_openranges_k07_lines_added_and_moved.main.body.getD i (.Pass ⟨0, 0, 0, 0⟩)
abbrev FnP (K : PySem.W.Frag) (x qual : Str) (st : Stmt) (f : Addr) (fd : FuncData) : Prop := FunD K x qual (defArgs st) (defBody st) (defScope st) [] [] f fd
/-- the built-in names that the text has not bound -/
structure Bt (mg : Str → Option Value) : Prop where
  len_ : mg "len" = none
  int_ : mg "int" = none
  abs_ : mg "abs" = none
  min_ : mg "min" = none
  max_ : mg "max" = none
  range_ : mg "range" = none
  isinstance_ : mg "isinstance" = none
  list_ : mg "list" = none
  tuple_ : mg "tuple" = none
  str_ : mg "str" = none
section
variable {P : Program} {w : World} {K : PySem.W.Frag} {mg : Str → Option Value} {base : Heap}
/-! ### value_at -/
abbrev s_value_at : Stmt := top 1
theorem sc_value_at : FnScope ["line", "x"] ["line", "x"] (defScope s_value_at) := ⟨rfl, rfl, rfl, by decide +kernel, rfl, by decide +kernel, by decide +kernel⟩
def t_value_at (K : PySem.W.Frag) : DS := (dRet (dOp fAdd (dOp fMul (dFld K "slope" (dVar 0)) (dVar 1)) (dFld K "height" (dVar 0))))
theorem der_value_at {C_Line : Addr} {pn : Option Addr} {f : Addr} (bt : Bt mg)  (cdv : Value) (A : Around) (outer : List Env) (s : Shared) (H : Hp) (E : XK) (hr : Room 0 (A.deeper (envOfC "value_at" (defScope s_value_at) s.heap.objs.size f cdv))) (mu : List Addr) (Hs0 H0 : Hp) :
    PSs (cxOf CX0 P w K mg base ["line", "x"] "value_at" (defScope s_value_at) f cdv A outer s H E).nox (defBody s_value_at) (liftS (cxOf CX0 P w K mg base ["line", "x"] "value_at" (defScope s_value_at) f cdv A outer s H E).nox.K ⟨pn, mu, Hs0, H0, fun _ _ _ _ => False⟩ (t_value_at K)) :=
  (dss_one (ds_ret (de_op op_addD od_add (DE.b (de_op op_mulO od_mul (DE.b (de_fld (pe_fld (de_var 0 (pv 0)) rfl))) (DE.b (de_var 1 (pv 1))))) (DE.b (de_fld (pe_fld (de_var 0 (pv 0)) rfl))))))
theorem ok_value_at {C_Line : Addr} {pn : Option Addr} {f : Addr} {fd : FuncData} (F : FnP K "value_at" "value_at" s_value_at f fd) (bt : Bt mg)  (hl : ∀ ds n R Rx, (sp_value_at C_Line) ds n R Rx → ds.length = 2) (hp : ∀ ds n R Rx, (sp_value_at C_Line) ds n R Rx → (t_value_at K) (fnEnds R) (startD ["line", "x"] ds) n) :
    FnOk P w K mg base CX0 1 f fd ["line", "x"] (liftSp K pn (sp_value_at C_Line)) :=
  dfn F sc_value_at hl (by decide) (der_value_at (C_Line := C_Line) bt ) hp
/-! ### Line.__init__ -/
abbrev s_Line___init__ : Stmt := inClass (top 2) 0
theorem sc_Line___init__ : FnScope ["self", "slope", "height"] ["self", "slope", "height"] (defScope s_Line___init__) := ⟨rfl, rfl, rfl, by decide +kernel, rfl, by decide +kernel, by decide +kernel⟩
def t_Line___init__ (K : PySem.W.Frag) : DS := (dSeq (dNew K 0 "slope" (dVar 1))
  (dNew K 0 "height" (dVar 2)))
theorem der_Line___init__ {C_Line : Addr} {pn : Option Addr} {f : Addr} (bt : Bt mg)  (cdv : Value) (A : Around) (outer : List Env) (s : Shared) (H : Hp) (E : XK) (hr : Room 0 (A.deeper (envOfC "Line.__init__" (defScope s_Line___init__) s.heap.objs.size f cdv))) (mu : List Addr) (Hs0 H0 : Hp) :
    PSs (cxOf CX0 P w K mg base ["self", "slope", "height"] "Line.__init__" (defScope s_Line___init__) f cdv A outer s H E).nox (defBody s_Line___init__) (liftS (cxOf CX0 P w K mg base ["self", "slope", "height"] "Line.__init__" (defScope s_Line___init__) f cdv A outer s H E).nox.K ⟨pn, mu, Hs0, H0, fun _ _ _ _ => False⟩ (t_Line___init__ K)) :=
  (dss_cons (ds_new 0 (ps_fld (pv 0) (de_var 1 (pv 1)) rfl))
      (dss_one (ds_new 0 (ps_fld (pv 0) (de_var 2 (pv 2)) rfl))))
theorem ok_Line___init__ {C_Line : Addr} {pn : Option Addr} {f : Addr} {fd : FuncData} (F : FnP K "__init__" "Line.__init__" s_Line___init__ f fd) (bt : Bt mg)  (hl : ∀ ds n R Rx, sp_Line___init__ ds n R Rx → ds.length = 2) (hp : ∀ ds n R Rx, sp_Line___init__ ds n R Rx → (t_Line___init__ K) (inEnds C_Line R) (.nw C_Line [] [] :: startD ["slope", "height"] ds) n) :
    FnOk P w K mg base CX0 1 f fd ["self", "slope", "height"] (liftI K pn C_Line sp_Line___init__) :=
  dfnI F sc_Line___init__ hl (by decide) (der_Line___init__ (C_Line := C_Line) bt ) hp
/-! ### Line.__call__ -/
abbrev s_Line___call__ : Stmt := inClass (top 2) 1
theorem sc_Line___call__ : FnScope ["self", "x"] ["self", "x"] (defScope s_Line___call__) := ⟨rfl, rfl, rfl, by decide +kernel, rfl, by decide +kernel, by decide +kernel⟩
def t_Line___call__ (K : PySem.W.Frag) (C_Line : Addr) : DS := (dRet (dCall (sp_value_at C_Line) (aCons (dVar 0) (aCons (dVar 1) aNil))))
theorem der_Line___call__ {C_Line : Addr} {pn : Option Addr} {f : Addr} (bt : Bt mg) (h_value_at : Fn P w K mg base CX0 pn 1 "value_at" ["line", "x"] (sp_value_at C_Line)) (cdv : Value) (A : Around) (outer : List Env) (s : Shared) (H : Hp) (E : XK) (hr : Room 1 (A.deeper (envOfC "Line.__call__" (defScope s_Line___call__) s.heap.objs.size f cdv))) (mu : List Addr) (Hs0 H0 : Hp) :
    PSs (cxOf CX0 P w K mg base ["self", "x"] "Line.__call__" (defScope s_Line___call__) f cdv A outer s H E).nox (defBody s_Line___call__) (liftS (cxOf CX0 P w K mg base ["self", "x"] "Line.__call__" (defScope s_Line___call__) f cdv A outer s H E).nox.K ⟨pn, mu, Hs0, H0, fun _ _ _ _ => False⟩ (t_Line___call__ K C_Line)) :=
  (dss_one (ds_ret (de_call h_value_at (hr.mono (by decide)) rfl (da_cons (de_var 0 (pv 0)) (da_cons (de_var 1 (pv 1)) da_nil)))))
theorem ok_Line___call__ {C_Line : Addr} {pn : Option Addr} {f : Addr} {fd : FuncData} (F : FnP K "__call__" "Line.__call__" s_Line___call__ f fd) (bt : Bt mg) (h_value_at : Fn P w K mg base CX0 pn 1 "value_at" ["line", "x"] (sp_value_at C_Line)) (hl : ∀ ds n R Rx, (sp_Line___call__ C_Line) ds n R Rx → ds.length = 2) (hp : ∀ ds n R Rx, (sp_Line___call__ C_Line) ds n R Rx → (t_Line___call__ K C_Line) (fnEnds R) (startD ["self", "x"] ds) n) :
    FnOk P w K mg base CX0 2 f fd ["self", "x"] (liftSp K pn (sp_Line___call__ C_Line)) :=
  dfn F sc_Line___call__ hl (by decide) (der_Line___call__ (C_Line := C_Line) bt h_value_at) hp
/-! ### Line.__eq__ -/
abbrev s_Line___eq__ : Stmt := inClass (top 2) 2
theorem sc_Line___eq__ : FnScope ["self", "other"] ["self", "other"] (defScope s_Line___eq__) := ⟨rfl, rfl, rfl, by decide +kernel, rfl, by decide +kernel, by decide +kernel⟩
def t_Line___eq__ (K : PySem.W.Frag) (C_Line : Addr) : DS := (dRet (dAndV (dCa (fIsi K) (aCons (dVar 1) (aCons (dC (.ref C_Line)) aNil))) (dAndV (dOp (fEq true) (dFld K "slope" (dVar 0)) (dFld K "slope" (dVar 1))) (dOp (fEq true) (dFld K "height" (dVar 0)) (dFld K "height" (dVar 1))))))
theorem der_Line___eq__ {C_Line : Addr} {pn : Option Addr} {f : Addr} (bt : Bt mg) (g_Line : mg "Line" = some (.ref C_Line)) (cdv : Value) (A : Around) (outer : List Env) (s : Shared) (H : Hp) (E : XK) (hr : Room 0 (A.deeper (envOfC "Line.__eq__" (defScope s_Line___eq__) s.heap.objs.size f cdv))) (mu : List Addr) (Hs0 H0 : Hp) :
    PSs (cxOf CX0 P w K mg base ["self", "other"] "Line.__eq__" (defScope s_Line___eq__) f cdv A outer s H E).nox (defBody s_Line___eq__) (liftS (cxOf CX0 P w K mg base ["self", "other"] "Line.__eq__" (defScope s_Line___eq__) f cdv A outer s H E).nox.K ⟨pn, mu, Hs0, H0, fun _ _ _ _ => False⟩ (t_Line___eq__ K C_Line)) :=
  (dss_one (ds_ret (de_and (ca_lift cd_isi (pe_callB call_isi (by rfl) bt.isinstance_ (by decide +kernel) (dab_cons (DE.b (de_var 1 (pv 1))) (dab_cons (DE.b (de_c (v := .ref C_Line) (d := .ref C_Line) (pe_glob rfl g_Line rfl) fun _ => rfl)) dab_nil)))) (de_and (de_cmp (op_eqD hr.units) od_eq (DE.b (de_fld (pe_fld (de_var 0 (pv 0)) rfl))) (DE.b (de_fld (pe_fld (de_var 1 (pv 1)) rfl))) (nomark _)) (de_one (de_cmp (op_eqD hr.units) od_eq (DE.b (de_fld (pe_fld (de_var 0 (pv 0)) rfl))) (DE.b (de_fld (pe_fld (de_var 1 (pv 1)) rfl))) (nomark _)))))))
theorem ok_Line___eq__ {C_Line : Addr} {pn : Option Addr} {f : Addr} {fd : FuncData} (F : FnP K "__eq__" "Line.__eq__" s_Line___eq__ f fd) (bt : Bt mg) (g_Line : mg "Line" = some (.ref C_Line)) (hl : ∀ ds n R Rx, (sp_Line___eq__ C_Line) ds n R Rx → ds.length = 2) (hp : ∀ ds n R Rx, (sp_Line___eq__ C_Line) ds n R Rx → (t_Line___eq__ K C_Line) (fnEnds R) (startD ["self", "other"] ds) n) :
    FnOk P w K mg base CX0 1 f fd ["self", "other"] (liftSp K pn (sp_Line___eq__ C_Line)) :=
  dfn F sc_Line___eq__ hl (by decide) (der_Line___eq__ (C_Line := C_Line) bt g_Line) hp
/-! ### line_of -/
abbrev s_line_of : Stmt := top 3
theorem sc_line_of : FnScope ["value"] ["value"] (defScope s_line_of) := ⟨rfl, rfl, rfl, by decide +kernel, rfl, by decide +kernel, by decide +kernel⟩
def t_line_of (K : PySem.W.Frag) (C_Line : Addr) : DS := (dRet (dIf (dTest (dCa (fIsi K) (aCons (dVar 0) (aCons (dC (.ref C_Line)) aNil)))) (dVar 0) (dMake C_Line sp_Line___init__ (aCons (dC (.int 0)) (aCons (dVar 0) aNil)))))
theorem der_line_of {C_Line : Addr} {pn : Option Addr} {f : Addr} (bt : Bt mg) (g_Line : mg "Line" = some (.ref C_Line)) (mk_Line : Mkc P w K mg base CX0 pn 1 "Line" C_Line ["self", "slope", "height"] sp_Line___init__) (cdv : Value) (A : Around) (outer : List Env) (s : Shared) (H : Hp) (E : XK) (hr : Room 2 (A.deeper (envOfC "line_of" (defScope s_line_of) s.heap.objs.size f cdv))) (mu : List Addr) (Hs0 H0 : Hp) :
    PSs (cxOf CX0 P w K mg base ["value"] "line_of" (defScope s_line_of) f cdv A outer s H E).nox (defBody s_line_of) (liftS (cxOf CX0 P w K mg base ["value"] "line_of" (defScope s_line_of) f cdv A outer s H E).nox.K ⟨pn, mu, Hs0, H0, fun _ _ _ _ => False⟩ (t_line_of K C_Line)) :=
  (dss_one (ds_ret (de_if (dt_val (ca_lift cd_isi (pe_callB call_isi (by rfl) bt.isinstance_ (by decide +kernel) (dab_cons (DE.b (de_var 0 (pv 0))) (dab_cons (DE.b (de_c (v := .ref C_Line) (d := .ref C_Line) (pe_glob rfl g_Line rfl) fun _ => rfl)) dab_nil))))) (de_var 0 (pv 0)) (de_make mk_Line (hr.mono (by decide)) rfl (da_cons de_int (da_cons (de_var 0 (pv 0)) da_nil))))))
theorem ok_line_of {C_Line : Addr} {pn : Option Addr} {f : Addr} {fd : FuncData} (F : FnP K "line_of" "line_of" s_line_of f fd) (bt : Bt mg) (g_Line : mg "Line" = some (.ref C_Line)) (mk_Line : Mkc P w K mg base CX0 pn 1 "Line" C_Line ["self", "slope", "height"] sp_Line___init__) (hl : ∀ ds n R Rx, (sp_line_of C_Line) ds n R Rx → ds.length = 1) (hp : ∀ ds n R Rx, (sp_line_of C_Line) ds n R Rx → (t_line_of K C_Line) (fnEnds R) (startD ["value"] ds) n) :
    FnOk P w K mg base CX0 3 f fd ["value"] (liftSp K pn (sp_line_of C_Line)) :=
  dfn F sc_line_of hl (by decide) (der_line_of (C_Line := C_Line) bt g_Line mk_Line) hp
/-! ### Line.__add__ -/
abbrev s_Line___add__ : Stmt := inClass (top 2) 3
theorem sc_Line___add__ : FnScope ["self", "other", "more"] ["self", "other"] (defScope s_Line___add__) := ⟨rfl, rfl, rfl, by decide +kernel, rfl, by decide +kernel, by decide +kernel⟩
def t_Line___add__ (K : PySem.W.Frag) (C_Line : Addr) : DS := (dSeq (dSet 2 (dCall (sp_line_of C_Line) (aCons (dVar 1) aNil)))
  (dRet (dMake C_Line sp_Line___init__ (aCons (dOp fAdd (dFld K "slope" (dVar 0)) (dFld K "slope" (dVar 2))) (aCons (dOp fAdd (dFld K "height" (dVar 0)) (dFld K "height" (dVar 2))) aNil)))))
theorem der_Line___add__ {C_Line : Addr} {pn : Option Addr} {f : Addr} (bt : Bt mg) (h_line_of : Fn P w K mg base CX0 pn 3 "line_of" ["value"] (sp_line_of C_Line)) (mk_Line : Mkc P w K mg base CX0 pn 1 "Line" C_Line ["self", "slope", "height"] sp_Line___init__) (cdv : Value) (A : Around) (outer : List Env) (s : Shared) (H : Hp) (E : XK) (hr : Room 3 (A.deeper (envOfC "Line.__add__" (defScope s_Line___add__) s.heap.objs.size f cdv))) (mu : List Addr) (Hs0 H0 : Hp) :
    PSs (cxOf CX0 P w K mg base ["self", "other", "more"] "Line.__add__" (defScope s_Line___add__) f cdv A outer s H E).nox (defBody s_Line___add__) (liftS (cxOf CX0 P w K mg base ["self", "other", "more"] "Line.__add__" (defScope s_Line___add__) f cdv A outer s H E).nox.K ⟨pn, mu, Hs0, H0, fun _ _ _ _ => False⟩ (t_Line___add__ K C_Line)) :=
  (dss_cons (ds_set 2 (ps_set (i := 2) sc_Line___add__.nd rfl (Or.inl rfl) (de_call h_line_of (hr.mono (by decide)) rfl (da_cons (de_var 1 (pv 1)) da_nil))))
      (dss_one (ds_ret (de_make mk_Line (hr.mono (by decide)) rfl (da_cons (de_op op_addD od_add (DE.b (de_fld (pe_fld (de_var 0 (pv 0)) rfl))) (DE.b (de_fld (pe_fld (de_var 2 (pv 2)) rfl)))) (da_cons (de_op op_addD od_add (DE.b (de_fld (pe_fld (de_var 0 (pv 0)) rfl))) (DE.b (de_fld (pe_fld (de_var 2 (pv 2)) rfl)))) da_nil))))))
theorem ok_Line___add__ {C_Line : Addr} {pn : Option Addr} {f : Addr} {fd : FuncData} (F : FnP K "__add__" "Line.__add__" s_Line___add__ f fd) (bt : Bt mg) (h_line_of : Fn P w K mg base CX0 pn 3 "line_of" ["value"] (sp_line_of C_Line)) (mk_Line : Mkc P w K mg base CX0 pn 1 "Line" C_Line ["self", "slope", "height"] sp_Line___init__) (hl : ∀ ds n R Rx, (sp_Line___add__ C_Line) ds n R Rx → ds.length = 2) (hp : ∀ ds n R Rx, (sp_Line___add__ C_Line) ds n R Rx → (t_Line___add__ K C_Line) (fnEnds R) (startD ["self", "other", "more"] ds) n) :
    FnOk P w K mg base CX0 4 f fd ["self", "other"] (liftSp K pn (sp_Line___add__ C_Line)) :=
  dfn F sc_Line___add__ hl (by decide) (der_Line___add__ (C_Line := C_Line) bt h_line_of mk_Line) hp
/-! ### Line.__radd__ -/
abbrev s_Line___radd__ : Stmt := inClass (top 2) 4
theorem sc_Line___radd__ : FnScope ["self", "other"] ["self", "other"] (defScope s_Line___radd__) := ⟨rfl, rfl, rfl, by decide +kernel, rfl, by decide +kernel, by decide +kernel⟩
def t_Line___radd__ (K : PySem.W.Frag) (C_Line : Addr) : DS := (dRet (dOpO C_Line (sp_Line___add__ C_Line) (dVar 0) (dVar 1)))
theorem der_Line___radd__ {C_Line : Addr} {pn : Option Addr} {f : Addr} (bt : Bt mg) (h_Line___add__ : Me P w K mg base CX0 pn 4 C_Line "__add__" ["self", "other"] (sp_Line___add__ C_Line)) (oc_Line_Add : OpC K C_Line .Add) (cdv : Value) (A : Around) (outer : List Env) (s : Shared) (H : Hp) (E : XK) (hr : Room 4 (A.deeper (envOfC "Line.__radd__" (defScope s_Line___radd__) s.heap.objs.size f cdv))) (mu : List Addr) (Hs0 H0 : Hp) :
    PSs (cxOf CX0 P w K mg base ["self", "other"] "Line.__radd__" (defScope s_Line___radd__) f cdv A outer s H E).nox (defBody s_Line___radd__) (liftS (cxOf CX0 P w K mg base ["self", "other"] "Line.__radd__" (defScope s_Line___radd__) f cdv A outer s H E).nox.K ⟨pn, mu, Hs0, H0, fun _ _ _ _ => False⟩ (t_Line___radd__ K C_Line)) :=
  (dss_one (ds_ret (de_opO oc_Line_Add h_Line___add__ rfl (hr.mono (by decide)) (de_var 0 (pv 0)) (de_var 1 (pv 1)))))
theorem ok_Line___radd__ {C_Line : Addr} {pn : Option Addr} {f : Addr} {fd : FuncData} (F : FnP K "__radd__" "Line.__radd__" s_Line___radd__ f fd) (bt : Bt mg) (h_Line___add__ : Me P w K mg base CX0 pn 4 C_Line "__add__" ["self", "other"] (sp_Line___add__ C_Line)) (oc_Line_Add : OpC K C_Line .Add) (hl : ∀ ds n R Rx, (sp_Line___radd__ C_Line) ds n R Rx → ds.length = 2) (hp : ∀ ds n R Rx, (sp_Line___radd__ C_Line) ds n R Rx → (t_Line___radd__ K C_Line) (fnEnds R) (startD ["self", "other"] ds) n) :
    FnOk P w K mg base CX0 5 f fd ["self", "other"] (liftSp K pn (sp_Line___radd__ C_Line)) :=
  dfn F sc_Line___radd__ hl (by decide) (der_Line___radd__ (C_Line := C_Line) bt h_Line___add__ oc_Line_Add) hp
/-! ### Line.__sub__ -/
abbrev s_Line___sub__ : Stmt := inClass (top 2) 5
theorem sc_Line___sub__ : FnScope ["self", "other", "less"] ["self", "other"] (defScope s_Line___sub__) := ⟨rfl, rfl, rfl, by decide +kernel, rfl, by decide +kernel, by decide +kernel⟩
def t_Line___sub__ (K : PySem.W.Frag) (C_Line : Addr) : DS := (dSeq (dSet 2 (dCall (sp_line_of C_Line) (aCons (dVar 1) aNil)))
  (dRet (dMake C_Line sp_Line___init__ (aCons (dOp fSub (dFld K "slope" (dVar 0)) (dFld K "slope" (dVar 2))) (aCons (dOp fSub (dFld K "height" (dVar 0)) (dFld K "height" (dVar 2))) aNil)))))
theorem der_Line___sub__ {C_Line : Addr} {pn : Option Addr} {f : Addr} (bt : Bt mg) (h_line_of : Fn P w K mg base CX0 pn 3 "line_of" ["value"] (sp_line_of C_Line)) (mk_Line : Mkc P w K mg base CX0 pn 1 "Line" C_Line ["self", "slope", "height"] sp_Line___init__) (cdv : Value) (A : Around) (outer : List Env) (s : Shared) (H : Hp) (E : XK) (hr : Room 3 (A.deeper (envOfC "Line.__sub__" (defScope s_Line___sub__) s.heap.objs.size f cdv))) (mu : List Addr) (Hs0 H0 : Hp) :
    PSs (cxOf CX0 P w K mg base ["self", "other", "less"] "Line.__sub__" (defScope s_Line___sub__) f cdv A outer s H E).nox (defBody s_Line___sub__) (liftS (cxOf CX0 P w K mg base ["self", "other", "less"] "Line.__sub__" (defScope s_Line___sub__) f cdv A outer s H E).nox.K ⟨pn, mu, Hs0, H0, fun _ _ _ _ => False⟩ (t_Line___sub__ K C_Line)) :=
  (dss_cons (ds_set 2 (ps_set (i := 2) sc_Line___sub__.nd rfl (Or.inl rfl) (de_call h_line_of (hr.mono (by decide)) rfl (da_cons (de_var 1 (pv 1)) da_nil))))
      (dss_one (ds_ret (de_make mk_Line (hr.mono (by decide)) rfl (da_cons (de_op op_sub od_sub (DE.b (de_fld (pe_fld (de_var 0 (pv 0)) rfl))) (DE.b (de_fld (pe_fld (de_var 2 (pv 2)) rfl)))) (da_cons (de_op op_sub od_sub (DE.b (de_fld (pe_fld (de_var 0 (pv 0)) rfl))) (DE.b (de_fld (pe_fld (de_var 2 (pv 2)) rfl)))) da_nil))))))
theorem ok_Line___sub__ {C_Line : Addr} {pn : Option Addr} {f : Addr} {fd : FuncData} (F : FnP K "__sub__" "Line.__sub__" s_Line___sub__ f fd) (bt : Bt mg) (h_line_of : Fn P w K mg base CX0 pn 3 "line_of" ["value"] (sp_line_of C_Line)) (mk_Line : Mkc P w K mg base CX0 pn 1 "Line" C_Line ["self", "slope", "height"] sp_Line___init__) (hl : ∀ ds n R Rx, (sp_Line___sub__ C_Line) ds n R Rx → ds.length = 2) (hp : ∀ ds n R Rx, (sp_Line___sub__ C_Line) ds n R Rx → (t_Line___sub__ K C_Line) (fnEnds R) (startD ["self", "other", "less"] ds) n) :
    FnOk P w K mg base CX0 4 f fd ["self", "other"] (liftSp K pn (sp_Line___sub__ C_Line)) :=
  dfn F sc_Line___sub__ hl (by decide) (der_Line___sub__ (C_Line := C_Line) bt h_line_of mk_Line) hp
/-! ### Line.__neg__ -/
abbrev s_Line___neg__ : Stmt := inClass (top 2) 7
theorem sc_Line___neg__ : FnScope ["self"] ["self"] (defScope s_Line___neg__) := ⟨rfl, rfl, rfl, by decide +kernel, rfl, by decide +kernel, by decide +kernel⟩
def t_Line___neg__ (K : PySem.W.Frag) (C_Line : Addr) : DS := (dRet (dMake C_Line sp_Line___init__ (aCons (dUn fNeg (dFld K "slope" (dVar 0))) (aCons (dUn fNeg (dFld K "height" (dVar 0))) aNil))))
theorem der_Line___neg__ {C_Line : Addr} {pn : Option Addr} {f : Addr} (bt : Bt mg) (mk_Line : Mkc P w K mg base CX0 pn 1 "Line" C_Line ["self", "slope", "height"] sp_Line___init__) (cdv : Value) (A : Around) (outer : List Env) (s : Shared) (H : Hp) (E : XK) (hr : Room 2 (A.deeper (envOfC "Line.__neg__" (defScope s_Line___neg__) s.heap.objs.size f cdv))) (mu : List Addr) (Hs0 H0 : Hp) :
    PSs (cxOf CX0 P w K mg base ["self"] "Line.__neg__" (defScope s_Line___neg__) f cdv A outer s H E).nox (defBody s_Line___neg__) (liftS (cxOf CX0 P w K mg base ["self"] "Line.__neg__" (defScope s_Line___neg__) f cdv A outer s H E).nox.K ⟨pn, mu, Hs0, H0, fun _ _ _ _ => False⟩ (t_Line___neg__ K C_Line)) :=
  (dss_one (ds_ret (de_make mk_Line (hr.mono (by decide)) rfl (da_cons (de_un un_neg ud_neg (DE.b (de_fld (pe_fld (de_var 0 (pv 0)) rfl)))) (da_cons (de_un un_neg ud_neg (DE.b (de_fld (pe_fld (de_var 0 (pv 0)) rfl)))) da_nil)))))
theorem ok_Line___neg__ {C_Line : Addr} {pn : Option Addr} {f : Addr} {fd : FuncData} (F : FnP K "__neg__" "Line.__neg__" s_Line___neg__ f fd) (bt : Bt mg) (mk_Line : Mkc P w K mg base CX0 pn 1 "Line" C_Line ["self", "slope", "height"] sp_Line___init__) (hl : ∀ ds n R Rx, (sp_Line___neg__ C_Line) ds n R Rx → ds.length = 1) (hp : ∀ ds n R Rx, (sp_Line___neg__ C_Line) ds n R Rx → (t_Line___neg__ K C_Line) (fnEnds R) (startD ["self"] ds) n) :
    FnOk P w K mg base CX0 3 f fd ["self"] (liftSp K pn (sp_Line___neg__ C_Line)) :=
  dfn F sc_Line___neg__ hl (by decide) (der_Line___neg__ (C_Line := C_Line) bt mk_Line) hp
/-! ### Line.__rsub__ -/
abbrev s_Line___rsub__ : Stmt := inClass (top 2) 6
theorem sc_Line___rsub__ : FnScope ["self", "other"] ["self", "other"] (defScope s_Line___rsub__) := ⟨rfl, rfl, rfl, by decide +kernel, rfl, by decide +kernel, by decide +kernel⟩
def t_Line___rsub__ (K : PySem.W.Frag) (C_Line : Addr) : DS := (dRet (dOpO C_Line (sp_Line___add__ C_Line) (dUnO C_Line (sp_Line___neg__ C_Line) (dVar 0)) (dVar 1)))
theorem der_Line___rsub__ {C_Line : Addr} {pn : Option Addr} {f : Addr} (bt : Bt mg) (h_Line___add__ : Me P w K mg base CX0 pn 4 C_Line "__add__" ["self", "other"] (sp_Line___add__ C_Line)) (oc_Line_Add : OpC K C_Line .Add) (h_Line___neg__ : Me P w K mg base CX0 pn 3 C_Line "__neg__" ["self"] (sp_Line___neg__ C_Line)) (cdv : Value) (A : Around) (outer : List Env) (s : Shared) (H : Hp) (E : XK) (hr : Room 4 (A.deeper (envOfC "Line.__rsub__" (defScope s_Line___rsub__) s.heap.objs.size f cdv))) (mu : List Addr) (Hs0 H0 : Hp) :
    PSs (cxOf CX0 P w K mg base ["self", "other"] "Line.__rsub__" (defScope s_Line___rsub__) f cdv A outer s H E).nox (defBody s_Line___rsub__) (liftS (cxOf CX0 P w K mg base ["self", "other"] "Line.__rsub__" (defScope s_Line___rsub__) f cdv A outer s H E).nox.K ⟨pn, mu, Hs0, H0, fun _ _ _ _ => False⟩ (t_Line___rsub__ K C_Line)) :=
  (dss_one (ds_ret (de_opO oc_Line_Add h_Line___add__ rfl (hr.mono (by decide)) (de_negO h_Line___neg__ (hr.mono (by decide)) (de_var 0 (pv 0))) (de_var 1 (pv 1)))))
theorem ok_Line___rsub__ {C_Line : Addr} {pn : Option Addr} {f : Addr} {fd : FuncData} (F : FnP K "__rsub__" "Line.__rsub__" s_Line___rsub__ f fd) (bt : Bt mg) (h_Line___add__ : Me P w K mg base CX0 pn 4 C_Line "__add__" ["self", "other"] (sp_Line___add__ C_Line)) (oc_Line_Add : OpC K C_Line .Add) (h_Line___neg__ : Me P w K mg base CX0 pn 3 C_Line "__neg__" ["self"] (sp_Line___neg__ C_Line)) (hl : ∀ ds n R Rx, (sp_Line___rsub__ C_Line) ds n R Rx → ds.length = 2) (hp : ∀ ds n R Rx, (sp_Line___rsub__ C_Line) ds n R Rx → (t_Line___rsub__ K C_Line) (fnEnds R) (startD ["self", "other"] ds) n) :
    FnOk P w K mg base CX0 5 f fd ["self", "other"] (liftSp K pn (sp_Line___rsub__ C_Line)) :=
  dfn F sc_Line___rsub__ hl (by decide) (der_Line___rsub__ (C_Line := C_Line) bt h_Line___add__ oc_Line_Add h_Line___neg__) hp
/-! ### Line.__mul__ -/
abbrev s_Line___mul__ : Stmt := inClass (top 2) 8
theorem sc_Line___mul__ : FnScope ["self", "factor"] ["self", "factor"] (defScope s_Line___mul__) := ⟨rfl, rfl, rfl, by decide +kernel, rfl, by decide +kernel, by decide +kernel⟩
def t_Line___mul__ (K : PySem.W.Frag) (C_Line : Addr) : DS := (dRet (dMake C_Line sp_Line___init__ (aCons (dOp fMul (dFld K "slope" (dVar 0)) (dVar 1)) (aCons (dOp fMul (dFld K "height" (dVar 0)) (dVar 1)) aNil))))
theorem der_Line___mul__ {C_Line : Addr} {pn : Option Addr} {f : Addr} (bt : Bt mg) (mk_Line : Mkc P w K mg base CX0 pn 1 "Line" C_Line ["self", "slope", "height"] sp_Line___init__) (cdv : Value) (A : Around) (outer : List Env) (s : Shared) (H : Hp) (E : XK) (hr : Room 2 (A.deeper (envOfC "Line.__mul__" (defScope s_Line___mul__) s.heap.objs.size f cdv))) (mu : List Addr) (Hs0 H0 : Hp) :
    PSs (cxOf CX0 P w K mg base ["self", "factor"] "Line.__mul__" (defScope s_Line___mul__) f cdv A outer s H E).nox (defBody s_Line___mul__) (liftS (cxOf CX0 P w K mg base ["self", "factor"] "Line.__mul__" (defScope s_Line___mul__) f cdv A outer s H E).nox.K ⟨pn, mu, Hs0, H0, fun _ _ _ _ => False⟩ (t_Line___mul__ K C_Line)) :=
  (dss_one (ds_ret (de_make mk_Line (hr.mono (by decide)) rfl (da_cons (de_op op_mulO od_mul (DE.b (de_fld (pe_fld (de_var 0 (pv 0)) rfl))) (DE.b (de_var 1 (pv 1)))) (da_cons (de_op op_mulO od_mul (DE.b (de_fld (pe_fld (de_var 0 (pv 0)) rfl))) (DE.b (de_var 1 (pv 1)))) da_nil)))))
theorem ok_Line___mul__ {C_Line : Addr} {pn : Option Addr} {f : Addr} {fd : FuncData} (F : FnP K "__mul__" "Line.__mul__" s_Line___mul__ f fd) (bt : Bt mg) (mk_Line : Mkc P w K mg base CX0 pn 1 "Line" C_Line ["self", "slope", "height"] sp_Line___init__) (hl : ∀ ds n R Rx, (sp_Line___mul__ C_Line) ds n R Rx → ds.length = 2) (hp : ∀ ds n R Rx, (sp_Line___mul__ C_Line) ds n R Rx → (t_Line___mul__ K C_Line) (fnEnds R) (startD ["self", "factor"] ds) n) :
    FnOk P w K mg base CX0 3 f fd ["self", "factor"] (liftSp K pn (sp_Line___mul__ C_Line)) :=
  dfn F sc_Line___mul__ hl (by decide) (der_Line___mul__ (C_Line := C_Line) bt mk_Line) hp
/-! ### Line.__rmul__ -/
abbrev s_Line___rmul__ : Stmt := inClass (top 2) 9
theorem sc_Line___rmul__ : FnScope ["self", "factor"] ["self", "factor"] (defScope s_Line___rmul__) := ⟨rfl, rfl, rfl, by decide +kernel, rfl, by decide +kernel, by decide +kernel⟩
def t_Line___rmul__ (K : PySem.W.Frag) (C_Line : Addr) : DS := (dRet (dOpO C_Line (sp_Line___mul__ C_Line) (dVar 0) (dVar 1)))
theorem der_Line___rmul__ {C_Line : Addr} {pn : Option Addr} {f : Addr} (bt : Bt mg) (h_Line___mul__ : Me P w K mg base CX0 pn 3 C_Line "__mul__" ["self", "factor"] (sp_Line___mul__ C_Line)) (oc_Line_Mult : OpC K C_Line .Mult) (cdv : Value) (A : Around) (outer : List Env) (s : Shared) (H : Hp) (E : XK) (hr : Room 3 (A.deeper (envOfC "Line.__rmul__" (defScope s_Line___rmul__) s.heap.objs.size f cdv))) (mu : List Addr) (Hs0 H0 : Hp) :
    PSs (cxOf CX0 P w K mg base ["self", "factor"] "Line.__rmul__" (defScope s_Line___rmul__) f cdv A outer s H E).nox (defBody s_Line___rmul__) (liftS (cxOf CX0 P w K mg base ["self", "factor"] "Line.__rmul__" (defScope s_Line___rmul__) f cdv A outer s H E).nox.K ⟨pn, mu, Hs0, H0, fun _ _ _ _ => False⟩ (t_Line___rmul__ K C_Line)) :=
  (dss_one (ds_ret (de_opO oc_Line_Mult h_Line___mul__ rfl (hr.mono (by decide)) (de_var 0 (pv 0)) (de_var 1 (pv 1)))))
theorem ok_Line___rmul__ {C_Line : Addr} {pn : Option Addr} {f : Addr} {fd : FuncData} (F : FnP K "__rmul__" "Line.__rmul__" s_Line___rmul__ f fd) (bt : Bt mg) (h_Line___mul__ : Me P w K mg base CX0 pn 3 C_Line "__mul__" ["self", "factor"] (sp_Line___mul__ C_Line)) (oc_Line_Mult : OpC K C_Line .Mult) (hl : ∀ ds n R Rx, (sp_Line___rmul__ C_Line) ds n R Rx → ds.length = 2) (hp : ∀ ds n R Rx, (sp_Line___rmul__ C_Line) ds n R Rx → (t_Line___rmul__ K C_Line) (fnEnds R) (startD ["self", "factor"] ds) n) :
    FnOk P w K mg base CX0 4 f fd ["self", "factor"] (liftSp K pn (sp_Line___rmul__ C_Line)) :=
  dfn F sc_Line___rmul__ hl (by decide) (der_Line___rmul__ (C_Line := C_Line) bt h_Line___mul__ oc_Line_Mult) hp
/-! ### Line.moved -/
abbrev s_Line_moved : Stmt := inClass (top 2) 10
theorem sc_Line_moved : FnScope ["self", "by"] ["self", "by"] (defScope s_Line_moved) := ⟨rfl, rfl, rfl, by decide +kernel, rfl, by decide +kernel, by decide +kernel⟩
def t_Line_moved (K : PySem.W.Frag) (C_Line : Addr) : DS := (dRet (dMake C_Line sp_Line___init__ (aCons (dFld K "slope" (dVar 0)) (aCons (dOp fSub (dFld K "height" (dVar 0)) (dOp fMul (dFld K "slope" (dVar 0)) (dVar 1))) aNil))))
theorem der_Line_moved {C_Line : Addr} {pn : Option Addr} {f : Addr} (bt : Bt mg) (mk_Line : Mkc P w K mg base CX0 pn 1 "Line" C_Line ["self", "slope", "height"] sp_Line___init__) (cdv : Value) (A : Around) (outer : List Env) (s : Shared) (H : Hp) (E : XK) (hr : Room 2 (A.deeper (envOfC "Line.moved" (defScope s_Line_moved) s.heap.objs.size f cdv))) (mu : List Addr) (Hs0 H0 : Hp) :
    PSs (cxOf CX0 P w K mg base ["self", "by"] "Line.moved" (defScope s_Line_moved) f cdv A outer s H E).nox (defBody s_Line_moved) (liftS (cxOf CX0 P w K mg base ["self", "by"] "Line.moved" (defScope s_Line_moved) f cdv A outer s H E).nox.K ⟨pn, mu, Hs0, H0, fun _ _ _ _ => False⟩ (t_Line_moved K C_Line)) :=
  (dss_one (ds_ret (de_make mk_Line (hr.mono (by decide)) rfl (da_cons (de_fld (pe_fld (de_var 0 (pv 0)) rfl)) (da_cons (de_op op_sub od_sub (DE.b (de_fld (pe_fld (de_var 0 (pv 0)) rfl))) (DE.b (de_op op_mulO od_mul (DE.b (de_fld (pe_fld (de_var 0 (pv 0)) rfl))) (DE.b (de_var 1 (pv 1)))))) da_nil)))))
theorem ok_Line_moved {C_Line : Addr} {pn : Option Addr} {f : Addr} {fd : FuncData} (F : FnP K "moved" "Line.moved" s_Line_moved f fd) (bt : Bt mg) (mk_Line : Mkc P w K mg base CX0 pn 1 "Line" C_Line ["self", "slope", "height"] sp_Line___init__) (hl : ∀ ds n R Rx, (sp_Line_moved C_Line) ds n R Rx → ds.length = 2) (hp : ∀ ds n R Rx, (sp_Line_moved C_Line) ds n R Rx → (t_Line_moved K C_Line) (fnEnds R) (startD ["self", "by"] ds) n) :
    FnOk P w K mg base CX0 3 f fd ["self", "by"] (liftSp K pn (sp_Line_moved C_Line)) :=
  dfn F sc_Line_moved hl (by decide) (der_Line_moved (C_Line := C_Line) bt mk_Line) hp
/-! ### Line.mirrored -/
abbrev s_Line_mirrored : Stmt := inClass (top 2) 11
theorem sc_Line_mirrored : FnScope ["self", "last"] ["self", "last"] (defScope s_Line_mirrored) := ⟨rfl, rfl, rfl, by decide +kernel, rfl, by decide +kernel, by decide +kernel⟩
def t_Line_mirrored (K : PySem.W.Frag) (C_Line : Addr) : DS := (dRet (dMake C_Line sp_Line___init__ (aCons (dUn fNeg (dFld K "slope" (dVar 0))) (aCons (dOp fAdd (dFld K "height" (dVar 0)) (dOp fMul (dFld K "slope" (dVar 0)) (dVar 1))) aNil))))
theorem der_Line_mirrored {C_Line : Addr} {pn : Option Addr} {f : Addr} (bt : Bt mg) (mk_Line : Mkc P w K mg base CX0 pn 1 "Line" C_Line ["self", "slope", "height"] sp_Line___init__) (cdv : Value) (A : Around) (outer : List Env) (s : Shared) (H : Hp) (E : XK) (hr : Room 2 (A.deeper (envOfC "Line.mirrored" (defScope s_Line_mirrored) s.heap.objs.size f cdv))) (mu : List Addr) (Hs0 H0 : Hp) :
    PSs (cxOf CX0 P w K mg base ["self", "last"] "Line.mirrored" (defScope s_Line_mirrored) f cdv A outer s H E).nox (defBody s_Line_mirrored) (liftS (cxOf CX0 P w K mg base ["self", "last"] "Line.mirrored" (defScope s_Line_mirrored) f cdv A outer s H E).nox.K ⟨pn, mu, Hs0, H0, fun _ _ _ _ => False⟩ (t_Line_mirrored K C_Line)) :=
  (dss_one (ds_ret (de_make mk_Line (hr.mono (by decide)) rfl (da_cons (de_un un_neg ud_neg (DE.b (de_fld (pe_fld (de_var 0 (pv 0)) rfl)))) (da_cons (de_op op_addD od_add (DE.b (de_fld (pe_fld (de_var 0 (pv 0)) rfl))) (DE.b (de_op op_mulO od_mul (DE.b (de_fld (pe_fld (de_var 0 (pv 0)) rfl))) (DE.b (de_var 1 (pv 1)))))) da_nil)))))
theorem ok_Line_mirrored {C_Line : Addr} {pn : Option Addr} {f : Addr} {fd : FuncData} (F : FnP K "mirrored" "Line.mirrored" s_Line_mirrored f fd) (bt : Bt mg) (mk_Line : Mkc P w K mg base CX0 pn 1 "Line" C_Line ["self", "slope", "height"] sp_Line___init__) (hl : ∀ ds n R Rx, (sp_Line_mirrored C_Line) ds n R Rx → ds.length = 2) (hp : ∀ ds n R Rx, (sp_Line_mirrored C_Line) ds n R Rx → (t_Line_mirrored K C_Line) (fnEnds R) (startD ["self", "last"] ds) n) :
    FnOk P w K mg base CX0 3 f fd ["self", "last"] (liftSp K pn (sp_Line_mirrored C_Line)) :=
  dfn F sc_Line_mirrored hl (by decide) (der_Line_mirrored (C_Line := C_Line) bt mk_Line) hp
/-! ### Line.text -/
abbrev s_Line_text : Stmt := inClass (top 2) 12
theorem sc_Line_text : FnScope ["self", "head"] ["self"] (defScope s_Line_text) := ⟨rfl, rfl, rfl, by decide +kernel, rfl, by decide +kernel, by decide +kernel⟩
def t_Line_text (K : PySem.W.Frag) : DS := (dSeq (dIfS (dTest (dOp (fEq true) (dFld K "slope" (dVar 0)) (dC (.int 0)))) (dRet (dUn fFmt (dFld K "height" (dVar 0)))) dNext)
  (dSeq (dSet 1 (dGet2 (dDisp [((dC (.int 1)), (dC (.str "x"))), ((dUn fNeg (dC (.int 1))), (dC (.str "-x")))]) (dFld K "slope" (dVar 0)) (dJoin [(dUn fFmt (dFld K "slope" (dVar 0))), (dC (.str " x"))])))
  (dSeq (dIfS (dTest (dOp (fEq true) (dFld K "height" (dVar 0)) (dC (.int 0)))) (dRet (dVar 1)) dNext)
  (dRet (dIf (dTest (dOp fGt (dFld K "height" (dVar 0)) (dC (.int 0)))) (dJoin [(dUn fFmt (dVar 1)), (dC (.str " + ")), (dUn fFmt (dFld K "height" (dVar 0)))]) (dJoin [(dUn fFmt (dVar 1)), (dC (.str " - ")), (dUn fFmt (dUn fNeg (dFld K "height" (dVar 0))))]))))))
theorem der_Line_text {C_Line : Addr} {pn : Option Addr} {f : Addr} (bt : Bt mg)  (cdv : Value) (A : Around) (outer : List Env) (s : Shared) (H : Hp) (E : XK) (hr : Room 0 (A.deeper (envOfC "Line.text" (defScope s_Line_text) s.heap.objs.size f cdv))) (mu : List Addr) (Hs0 H0 : Hp) :
    PSs (cxOf CX0 P w K mg base ["self", "head"] "Line.text" (defScope s_Line_text) f cdv A outer s H E).nox (defBody s_Line_text) (liftS (cxOf CX0 P w K mg base ["self", "head"] "Line.text" (defScope s_Line_text) f cdv A outer s H E).nox.K ⟨pn, mu, Hs0, H0, fun _ _ _ _ => False⟩ (t_Line_text K)) :=
  (dss_cons (ds_if (dt_cmp (op_eqD hr.units) od_eq (DE.b (de_fld (pe_fld (de_var 0 (pv 0)) rfl))) (DE.b de_int) (nomark _)) (dss_one (ds_ret (de_join1 (de_fmt (de_fld (pe_fld (de_var 0 (pv 0)) rfl)))))) dss_nil)
      (dss_cons (ds_set 1 (ps_set (i := 1) sc_Line_text.nd rfl (Or.inl rfl) (de_get2 (hu1 hr) (de_disp (dps_cons de_int de_str (dps_cons (de_un un_neg ud_neg (DE.b de_int)) de_str dps_nil)) rfl rfl (by simp) (by decide)) (de_fld (pe_fld (de_var 0 (pv 0)) rfl)) (de_join (dj_cons (de_fmt (de_fld (pe_fld (de_var 0 (pv 0)) rfl))) (dj_cons de_str dj_nil))) ⟨rfl, rfl, rfl, rfl⟩)))
      (dss_cons (ds_if (dt_cmp (op_eqD hr.units) od_eq (DE.b (de_fld (pe_fld (de_var 0 (pv 0)) rfl))) (DE.b de_int) (nomark _)) (dss_one (ds_ret (de_var 1 (pv 1)))) dss_nil)
      (dss_one (ds_ret (de_if (dt_cmp op_gt od_gt (DE.b (de_fld (pe_fld (de_var 0 (pv 0)) rfl))) (DE.b de_int) (nomark _)) (de_join (dj_cons (de_fmt (de_var 1 (pv 1))) (dj_cons de_str (dj_cons (de_fmt (de_fld (pe_fld (de_var 0 (pv 0)) rfl))) dj_nil)))) (de_join (dj_cons (de_fmt (de_var 1 (pv 1))) (dj_cons de_str (dj_cons (de_fmt (de_un un_neg ud_neg (DE.b (de_fld (pe_fld (de_var 0 (pv 0)) rfl))))) dj_nil))))))))))
theorem ok_Line_text {C_Line : Addr} {pn : Option Addr} {f : Addr} {fd : FuncData} (F : FnP K "text" "Line.text" s_Line_text f fd) (bt : Bt mg)  (hl : ∀ ds n R Rx, (sp_Line_text C_Line) ds n R Rx → ds.length = 1) (hp : ∀ ds n R Rx, (sp_Line_text C_Line) ds n R Rx → (t_Line_text K) (fnEnds R) (startD ["self", "head"] ds) n) :
    FnOk P w K mg base CX0 1 f fd ["self"] (liftSp K pn (sp_Line_text C_Line)) :=
  dfn F sc_Line_text hl (by decide) (der_Line_text (C_Line := C_Line) bt ) hp
abbrev s__law_pen : Stmt := top 5
theorem sc__law_pen : FnScope ["_law_script"] ["_law_script"] (defScope s__law_pen) := ⟨rfl, rfl, rfl, by decide +kernel, rfl, by decide +kernel, by decide +kernel⟩
abbrev s__law_draw : Stmt := top 6
theorem sc__law_draw : FnScope ["_law_pen_here", "_law_many", "_law_digit", "_law_k", "_law_size", "_law_cell", "_law_mix"] ["_law_pen_here", "_law_many"] (defScope s__law_draw) := ⟨rfl, rfl, rfl, by decide +kernel, rfl, by decide +kernel, by decide +kernel⟩
/-! ### _law_pick -/
abbrev s__law_pick : Stmt := top 7
theorem sc__law_pick : FnScope ["_law_pen_here", "_law_items"] ["_law_pen_here", "_law_items"] (defScope s__law_pick) := ⟨rfl, rfl, rfl, by decide +kernel, rfl, by decide +kernel, by decide +kernel⟩
def t__law_pick (K : PySem.W.Frag) (p : Addr) : DS := (dRet (dOp fIx (dVar 1) (dCall (sp__law_draw p) (aCons (dVar 0) (aCons (dCa fLen (aCons (dVar 1) aNil)) aNil)))))
theorem der__law_pick {p : Addr} {f : Addr} (bt : Bt mg) (h__law_draw : Fn P w K mg base CX0 (some p) 1 "_law_draw" ["_law_pen_here", "_law_many"] (sp__law_draw p)) (cdv : Value) (A : Around) (outer : List Env) (s : Shared) (H : Hp) (E : XK) (hr : Room 1 (A.deeper (envOfC "_law_pick" (defScope s__law_pick) s.heap.objs.size f cdv))) (mu : List Addr) (Hs0 H0 : Hp) :
    PSs (cxOf CX0 P w K mg base ["_law_pen_here", "_law_items"] "_law_pick" (defScope s__law_pick) f cdv A outer s H E).nox (defBody s__law_pick) (liftS (cxOf CX0 P w K mg base ["_law_pen_here", "_law_items"] "_law_pick" (defScope s__law_pick) f cdv A outer s H E).nox.K ⟨(some p), mu, Hs0, H0, fun _ _ _ _ => False⟩ (t__law_pick K p)) :=
  (dss_one (ds_ret (de_ix ix_seq od_ix (DE.b (de_var 1 (pv 1))) (DE.b (de_call h__law_draw (hr.mono (by decide)) rfl (da_cons (de_var 0 (pv 0)) (da_cons (ca_lift cd_len (pe_callB call_len (by rfl) bt.len_ PySem.boot_len (dab_cons (DE.b (de_var 1 (pv 1))) dab_nil))) da_nil)))) (fun _ _ => rfl))))
theorem ok__law_pick {p : Addr} {f : Addr} {fd : FuncData} (F : FnP K "_law_pick" "_law_pick" s__law_pick f fd) (bt : Bt mg) (h__law_draw : Fn P w K mg base CX0 (some p) 1 "_law_draw" ["_law_pen_here", "_law_many"] (sp__law_draw p)) (hl : ∀ ds n R Rx, (sp__law_pick p) ds n R Rx → ds.length = 2) (hp : ∀ ds n R Rx, (sp__law_pick p) ds n R Rx → (t__law_pick K p) (fnEnds R) (startD ["_law_pen_here", "_law_items"] ds) n) :
    FnOk P w K mg base CX0 2 f fd ["_law_pen_here", "_law_items"] (liftSp K (some p) (sp__law_pick p)) :=
  dfn F sc__law_pick hl (by decide) (der__law_pick bt h__law_draw) hp
/-! ### _law_spot -/
abbrev s__law_spot : Stmt := top 8
theorem sc__law_spot : FnScope ["_law_pen_here", "_law_way"] ["_law_pen_here"] (defScope s__law_spot) := ⟨rfl, rfl, rfl, by decide +kernel, rfl, by decide +kernel, by decide +kernel⟩
def t__law_spot (K : PySem.W.Frag) (p : Addr) : DS := (dSeq (dSet 1 (dCall (sp__law_draw p) (aCons (dVar 0) (aCons (dC (.int 5)) aNil))))
  (dSeq (dIfS (dTest (dOp fLt (dVar 1) (dC (.int 2)))) (dRet (dCall (sp__law_draw p) (aCons (dVar 0) (aCons (dOp fIx (dLst (aCons (dC (.int 9)) (aCons (dC (.int 60)) aNil))) (dVar 1)) aNil)))) dNext)
  (dSeq (dIfS (dTest (dOp (fEq true) (dVar 1) (dC (.int 2)))) (dRet (dCall (sp__law_draw p) (aCons (dVar 0) (aCons (dOp fAdd (dOp fPow (dC (.int 10)) (dC (.int 30))) (dC (.int 1))) aNil)))) dNext)
  (dRet (dIf (dTest (dOp (fEq true) (dVar 1) (dC (.int 3)))) (dOp fSub (dOp fPow (dC (.int 10)) (dC (.int 30))) (dCall (sp__law_draw p) (aCons (dVar 0) (aCons (dC (.int 9)) aNil)))) (dOp fAdd (dOp fPow (dC (.int 10)) (dC (.int 15))) (dCall (sp__law_draw p) (aCons (dVar 0) (aCons (dC (.int 99)) aNil)))))))))
theorem der__law_spot {p : Addr} {f : Addr} (bt : Bt mg) (h__law_draw : Fn P w K mg base CX0 (some p) 1 "_law_draw" ["_law_pen_here", "_law_many"] (sp__law_draw p)) (cdv : Value) (A : Around) (outer : List Env) (s : Shared) (H : Hp) (E : XK) (hr : Room 1 (A.deeper (envOfC "_law_spot" (defScope s__law_spot) s.heap.objs.size f cdv))) (mu : List Addr) (Hs0 H0 : Hp) :
    PSs (cxOf CX0 P w K mg base ["_law_pen_here", "_law_way"] "_law_spot" (defScope s__law_spot) f cdv A outer s H E).nox (defBody s__law_spot) (liftS (cxOf CX0 P w K mg base ["_law_pen_here", "_law_way"] "_law_spot" (defScope s__law_spot) f cdv A outer s H E).nox.K ⟨(some p), mu, Hs0, H0, fun _ _ _ _ => False⟩ (t__law_spot K p)) :=
  (dss_cons (ds_set 1 (ps_set (i := 1) sc__law_spot.nd rfl (Or.inl rfl) (de_call h__law_draw (hr.mono (by decide)) rfl (da_cons (de_var 0 (pv 0)) (da_cons de_int da_nil)))))
      (dss_cons (ds_if (dt_cmp op_lt od_lt (DE.b (de_var 1 (pv 1))) (DE.b de_int) (nomark _)) (dss_one (ds_ret (de_call h__law_draw (hr.mono (by decide)) rfl (da_cons (de_var 0 (pv 0)) (da_cons (de_ix ix_seq od_ix (DE.b (de_lst (da_cons de_int (da_cons de_int da_nil)))) (DE.b (de_var 1 (pv 1))) (fun _ _ => rfl)) da_nil))))) dss_nil)
      (dss_cons (ds_if (dt_cmp (op_eqD hr.units) od_eq (DE.b (de_var 1 (pv 1))) (DE.b de_int) (nomark _)) (dss_one (ds_ret (de_call h__law_draw (hr.mono (by decide)) rfl (da_cons (de_var 0 (pv 0)) (da_cons (de_op op_addD od_add (DE.b (de_op op_pow od_pow (DE.b de_int) (DE.b de_int))) (DE.b de_int)) da_nil))))) dss_nil)
      (dss_one (ds_ret (de_if (dt_cmp (op_eqD hr.units) od_eq (DE.b (de_var 1 (pv 1))) (DE.b de_int) (nomark _)) (de_op op_sub od_sub (DE.b (de_op op_pow od_pow (DE.b de_int) (DE.b de_int))) (DE.b (de_call h__law_draw (hr.mono (by decide)) rfl (da_cons (de_var 0 (pv 0)) (da_cons de_int da_nil))))) (de_op op_addD od_add (DE.b (de_op op_pow od_pow (DE.b de_int) (DE.b de_int))) (DE.b (de_call h__law_draw (hr.mono (by decide)) rfl (da_cons (de_var 0 (pv 0)) (da_cons de_int da_nil)))))))))))
theorem ok__law_spot {p : Addr} {f : Addr} {fd : FuncData} (F : FnP K "_law_spot" "_law_spot" s__law_spot f fd) (bt : Bt mg) (h__law_draw : Fn P w K mg base CX0 (some p) 1 "_law_draw" ["_law_pen_here", "_law_many"] (sp__law_draw p)) (hl : ∀ ds n R Rx, (sp__law_spot p) ds n R Rx → ds.length = 1) (hp : ∀ ds n R Rx, (sp__law_spot p) ds n R Rx → (t__law_spot K p) (fnEnds R) (startD ["_law_pen_here", "_law_way"] ds) n) :
    FnOk P w K mg base CX0 2 f fd ["_law_pen_here"] (liftSp K (some p) (sp__law_spot p)) :=
  dfn F sc__law_spot hl (by decide) (der__law_spot bt h__law_draw) hp
/-! ### _law_whole -/
abbrev s__law_whole : Stmt := top 9
theorem sc__law_whole : FnScope ["_law_pen_here", "_law_size"] ["_law_pen_here"] (defScope s__law_whole) := ⟨rfl, rfl, rfl, by decide +kernel, rfl, by decide +kernel, by decide +kernel⟩
def t__law_whole (K : PySem.W.Frag) (p : Addr) : DS := (dSeq (dSet 1 (dCall (sp__law_pick p) (aCons (dVar 0) (aCons (dLst (aCons (dC (.int 3)) (aCons (dC (.int 10)) (aCons (dC (.int 100)) (aCons (dOp fPow (dC (.int 10)) (dC (.int 6))) (aCons (dOp fPow (dC (.int 10)) (dC (.int 30))) aNil)))))) aNil))))
  (dRet (dOp fMul (dCall (sp__law_draw p) (aCons (dVar 0) (aCons (dVar 1) aNil))) (dCall (sp__law_pick p) (aCons (dVar 0) (aCons (dLst (aCons (dC (.int 1)) (aCons (dC (.int 1)) (aCons (dUn fNeg (dC (.int 1))) aNil)))) aNil))))))
theorem der__law_whole {p : Addr} {f : Addr} (bt : Bt mg) (h__law_pick : Fn P w K mg base CX0 (some p) 2 "_law_pick" ["_law_pen_here", "_law_items"] (sp__law_pick p)) (h__law_draw : Fn P w K mg base CX0 (some p) 1 "_law_draw" ["_law_pen_here", "_law_many"] (sp__law_draw p)) (cdv : Value) (A : Around) (outer : List Env) (s : Shared) (H : Hp) (E : XK) (hr : Room 2 (A.deeper (envOfC "_law_whole" (defScope s__law_whole) s.heap.objs.size f cdv))) (mu : List Addr) (Hs0 H0 : Hp) :
    PSs (cxOf CX0 P w K mg base ["_law_pen_here", "_law_size"] "_law_whole" (defScope s__law_whole) f cdv A outer s H E).nox (defBody s__law_whole) (liftS (cxOf CX0 P w K mg base ["_law_pen_here", "_law_size"] "_law_whole" (defScope s__law_whole) f cdv A outer s H E).nox.K ⟨(some p), mu, Hs0, H0, fun _ _ _ _ => False⟩ (t__law_whole K p)) :=
  (dss_cons (ds_set 1 (ps_set (i := 1) sc__law_whole.nd rfl (Or.inl rfl) (de_call h__law_pick (hr.mono (by decide)) rfl (da_cons (de_var 0 (pv 0)) (da_cons (de_lst (da_cons de_int (da_cons de_int (da_cons de_int (da_cons (de_op op_pow od_pow (DE.b de_int) (DE.b de_int)) (da_cons (de_op op_pow od_pow (DE.b de_int) (DE.b de_int)) da_nil)))))) da_nil)))))
      (dss_one (ds_ret (de_op op_mulO od_mul (DE.b (de_call h__law_draw (hr.mono (by decide)) rfl (da_cons (de_var 0 (pv 0)) (da_cons (de_var 1 (pv 1)) da_nil)))) (DE.b (de_call h__law_pick (hr.mono (by decide)) rfl (da_cons (de_var 0 (pv 0)) (da_cons (de_lst (da_cons de_int (da_cons de_int (da_cons (de_un un_neg ud_neg (DE.b de_int)) da_nil)))) da_nil))))))))
theorem ok__law_whole {p : Addr} {f : Addr} {fd : FuncData} (F : FnP K "_law_whole" "_law_whole" s__law_whole f fd) (bt : Bt mg) (h__law_pick : Fn P w K mg base CX0 (some p) 2 "_law_pick" ["_law_pen_here", "_law_items"] (sp__law_pick p)) (h__law_draw : Fn P w K mg base CX0 (some p) 1 "_law_draw" ["_law_pen_here", "_law_many"] (sp__law_draw p)) (hl : ∀ ds n R Rx, (sp__law_whole p) ds n R Rx → ds.length = 1) (hp : ∀ ds n R Rx, (sp__law_whole p) ds n R Rx → (t__law_whole K p) (fnEnds R) (startD ["_law_pen_here", "_law_size"] ds) n) :
    FnOk P w K mg base CX0 3 f fd ["_law_pen_here"] (liftSp K (some p) (sp__law_whole p)) :=
  dfn F sc__law_whole hl (by decide) (der__law_whole bt h__law_pick h__law_draw) hp
/-! ### _law_line -/
abbrev s__law_line : Stmt := top 10
theorem sc__law_line : FnScope ["_law_pen_here", "_law_slope"] ["_law_pen_here"] (defScope s__law_line) := ⟨rfl, rfl, rfl, by decide +kernel, rfl, by decide +kernel, by decide +kernel⟩
def t__law_line (K : PySem.W.Frag) (p : Addr) : DS := (dSeq (dSet 1 (dCall (sp__law_pick p) (aCons (dVar 0) (aCons (dLst (aCons (dC (.int 0)) (aCons (dC (.int 1)) (aCons (dUn fNeg (dC (.int 1))) (aCons (dC (.int 2)) (aCons (dUn fNeg (dC (.int 3))) (aCons (dCall (sp__law_draw p) (aCons (dVar 0) (aCons (dOp fAdd (dOp fPow (dC (.int 10)) (dC (.int 9))) (dC (.int 1))) aNil))) (aCons (dUn fNeg (dCall (sp__law_draw p) (aCons (dVar 0) (aCons (dOp fAdd (dOp fPow (dC (.int 10)) (dC (.int 9))) (dC (.int 1))) aNil)))) aNil)))))))) aNil))))
  (dRet (dTup (aCons (dVar 1) (aCons (dCall (sp__law_whole p) (aCons (dVar 0) aNil)) aNil)))))
theorem der__law_line {p : Addr} {f : Addr} (bt : Bt mg) (h__law_pick : Fn P w K mg base CX0 (some p) 2 "_law_pick" ["_law_pen_here", "_law_items"] (sp__law_pick p)) (h__law_draw : Fn P w K mg base CX0 (some p) 1 "_law_draw" ["_law_pen_here", "_law_many"] (sp__law_draw p)) (h__law_whole : Fn P w K mg base CX0 (some p) 3 "_law_whole" ["_law_pen_here"] (sp__law_whole p)) (cdv : Value) (A : Around) (outer : List Env) (s : Shared) (H : Hp) (E : XK) (hr : Room 3 (A.deeper (envOfC "_law_line" (defScope s__law_line) s.heap.objs.size f cdv))) (mu : List Addr) (Hs0 H0 : Hp) :
    PSs (cxOf CX0 P w K mg base ["_law_pen_here", "_law_slope"] "_law_line" (defScope s__law_line) f cdv A outer s H E).nox (defBody s__law_line) (liftS (cxOf CX0 P w K mg base ["_law_pen_here", "_law_slope"] "_law_line" (defScope s__law_line) f cdv A outer s H E).nox.K ⟨(some p), mu, Hs0, H0, fun _ _ _ _ => False⟩ (t__law_line K p)) :=
  (dss_cons (ds_set 1 (ps_set (i := 1) sc__law_line.nd rfl (Or.inl rfl) (de_call h__law_pick (hr.mono (by decide)) rfl (da_cons (de_var 0 (pv 0)) (da_cons (de_lst (da_cons de_int (da_cons de_int (da_cons (de_un un_neg ud_neg (DE.b de_int)) (da_cons de_int (da_cons (de_un un_neg ud_neg (DE.b de_int)) (da_cons (de_call h__law_draw (hr.mono (by decide)) rfl (da_cons (de_var 0 (pv 0)) (da_cons (de_op op_addD od_add (DE.b (de_op op_pow od_pow (DE.b de_int) (DE.b de_int))) (DE.b de_int)) da_nil))) (da_cons (de_un un_neg ud_neg (DE.b (de_call h__law_draw (hr.mono (by decide)) rfl (da_cons (de_var 0 (pv 0)) (da_cons (de_op op_addD od_add (DE.b (de_op op_pow od_pow (DE.b de_int) (DE.b de_int))) (DE.b de_int)) da_nil))))) da_nil)))))))) da_nil)))))
      (dss_one (ds_ret (de_tup (da_cons (de_var 1 (pv 1)) (da_cons (de_call h__law_whole (hr.mono (by decide)) rfl (da_cons (de_var 0 (pv 0)) da_nil)) da_nil))))))
theorem ok__law_line {p : Addr} {f : Addr} {fd : FuncData} (F : FnP K "_law_line" "_law_line" s__law_line f fd) (bt : Bt mg) (h__law_pick : Fn P w K mg base CX0 (some p) 2 "_law_pick" ["_law_pen_here", "_law_items"] (sp__law_pick p)) (h__law_draw : Fn P w K mg base CX0 (some p) 1 "_law_draw" ["_law_pen_here", "_law_many"] (sp__law_draw p)) (h__law_whole : Fn P w K mg base CX0 (some p) 3 "_law_whole" ["_law_pen_here"] (sp__law_whole p)) (hl : ∀ ds n R Rx, (sp__law_line p) ds n R Rx → ds.length = 1) (hp : ∀ ds n R Rx, (sp__law_line p) ds n R Rx → (t__law_line K p) (fnEnds R) (startD ["_law_pen_here", "_law_slope"] ds) n) :
    FnOk P w K mg base CX0 4 f fd ["_law_pen_here"] (liftSp K (some p) (sp__law_line p)) :=
  dfn F sc__law_line hl (by decide) (der__law_line bt h__law_pick h__law_draw h__law_whole) hp
/-! ### _law_worth -/
abbrev s__law_worth : Stmt := top 11
theorem sc__law_worth : FnScope ["_law_line_here", "_law_x"] ["_law_line_here", "_law_x"] (defScope s__law_worth) := ⟨rfl, rfl, rfl, by decide +kernel, rfl, by decide +kernel, by decide +kernel⟩
def t__law_worth (K : PySem.W.Frag) : DS := (dRet (dOp fAdd (dOp fMul (dOp fIx (dVar 0) (dC (.int 0))) (dVar 1)) (dOp fIx (dVar 0) (dC (.int 1)))))
theorem der__law_worth {pn : Option Addr} {f : Addr} (bt : Bt mg)  (cdv : Value) (A : Around) (outer : List Env) (s : Shared) (H : Hp) (E : XK) (hr : Room 0 (A.deeper (envOfC "_law_worth" (defScope s__law_worth) s.heap.objs.size f cdv))) (mu : List Addr) (Hs0 H0 : Hp) :
    PSs (cxOf CX0 P w K mg base ["_law_line_here", "_law_x"] "_law_worth" (defScope s__law_worth) f cdv A outer s H E).nox (defBody s__law_worth) (liftS (cxOf CX0 P w K mg base ["_law_line_here", "_law_x"] "_law_worth" (defScope s__law_worth) f cdv A outer s H E).nox.K ⟨pn, mu, Hs0, H0, fun _ _ _ _ => False⟩ (t__law_worth K)) :=
  (dss_one (ds_ret (de_op op_addD od_add (DE.b (de_op op_mulO od_mul (DE.b (de_ix ix_seq od_ix (DE.b (de_var 0 (pv 0))) (DE.b de_int) (fun _ _ => rfl))) (DE.b (de_var 1 (pv 1))))) (DE.b (de_ix ix_seq od_ix (DE.b (de_var 0 (pv 0))) (DE.b de_int) (fun _ _ => rfl))))))
theorem ok__law_worth {pn : Option Addr} {f : Addr} {fd : FuncData} (F : FnP K "_law_worth" "_law_worth" s__law_worth f fd) (bt : Bt mg)  (hl : ∀ ds n R Rx, sp__law_worth ds n R Rx → ds.length = 2) (hp : ∀ ds n R Rx, sp__law_worth ds n R Rx → (t__law_worth K) (fnEnds R) (startD ["_law_line_here", "_law_x"] ds) n) :
    FnOk P w K mg base CX0 1 f fd ["_law_line_here", "_law_x"] (liftSp K pn sp__law_worth) :=
  dfn F sc__law_worth hl (by decide) (der__law_worth bt ) hp
/-! ### _law_line_text -/
abbrev s__law_line_text : Stmt := top 12
theorem sc__law_line_text : FnScope ["_law_line_here", "_law_slope", "_law_height", "_law_head"] ["_law_line_here"] (defScope s__law_line_text) := ⟨rfl, rfl, rfl, by decide +kernel, rfl, by decide +kernel, by decide +kernel⟩
def t__law_line_text (K : PySem.W.Frag) : DS := (dSeq (dAsg (dVar 0) (dgT 2 (dgCons (dgN 1) (dgCons (dgN 2) dgNil))))
  (dSeq (dIfS (dTest (dOp (fEq true) (dVar 1) (dC (.int 0)))) (dRet (dCa fStr (aCons (dVar 2) aNil))) dNext)
  (dSeq (dSet 3 (dOp fAdd (dCa fStr (aCons (dVar 1) aNil)) (dC (.str " x"))))
  (dSeq (dIfS (dOr (dTest (dOp (fEq true) (dVar 1) (dC (.int 1)))) (dTest (dOp (fEq true) (dVar 1) (dUn fNeg (dC (.int 1)))))) (dSet 3 (dIf (dTest (dOp (fEq true) (dVar 1) (dC (.int 1)))) (dC (.str "x")) (dC (.str "-x")))) dNext)
  (dSeq (dIfS (dTest (dOp (fEq true) (dVar 2) (dC (.int 0)))) (dRet (dVar 3)) dNext)
  (dRet (dOp fAdd (dOp fAdd (dVar 3) (dIf (dTest (dOp fGt (dVar 2) (dC (.int 0)))) (dC (.str " + ")) (dC (.str " - ")))) (dCa fStr (aCons (dCa fAbs (aCons (dVar 2) aNil)) aNil)))))))))
theorem der__law_line_text {pn : Option Addr} {f : Addr} (bt : Bt mg)  (cdv : Value) (A : Around) (outer : List Env) (s : Shared) (H : Hp) (E : XK) (hr : Room 0 (A.deeper (envOfC "_law_line_text" (defScope s__law_line_text) s.heap.objs.size f cdv))) (mu : List Addr) (Hs0 H0 : Hp) :
    PSs (cxOf CX0 P w K mg base ["_law_line_here", "_law_slope", "_law_height", "_law_head"] "_law_line_text" (defScope s__law_line_text) f cdv A outer s H E).nox (defBody s__law_line_text) (liftS (cxOf CX0 P w K mg base ["_law_line_here", "_law_slope", "_law_height", "_law_head"] "_law_line_text" (defScope s__law_line_text) f cdv A outer s H E).nox.K ⟨pn, mu, Hs0, H0, fun _ _ _ _ => False⟩ (t__law_line_text K)) :=
  (dss_cons (ds_asg (ps_asg (de_var 0 (pv 0)) (dg_tup (pg_tup rfl (dgs_cons (dg_name 1 (ws := [1, 2]) (by decide) (pg_name (i := 1) sc__law_line_text.nd rfl (Or.inl rfl))) (dgs_cons (dg_name 2 (ws := [1, 2]) (by decide) (pg_name (i := 2) sc__law_line_text.nd rfl (Or.inl rfl))) (dgs_nil (ws := [1, 2]))))))))
      (dss_cons (ds_if (dt_cmp (op_eqD hr.units) od_eq (DE.b (de_var 1 (pv 1))) (DE.b de_int) (nomark _)) (dss_one (ds_ret (ca_lift cd_str (pe_callTy call_str_int (by rfl) bt.str_ (by decide +kernel) (dab_cons (DE.b (de_var 2 (pv 2))) dab_nil))))) dss_nil)
      (dss_cons (ds_set 3 (ps_set (i := 3) sc__law_line_text.nd rfl (Or.inl rfl) (de_op op_addD od_add (DE.b (ca_lift cd_str (pe_callTy call_str_int (by rfl) bt.str_ (by decide +kernel) (dab_cons (DE.b (de_var 1 (pv 1))) dab_nil)))) (DE.b de_str))))
      (dss_cons (ds_if (PW.pt (dw_or (dt_cmp (op_eqD hr.units) od_eq (DE.b (de_var 1 (pv 1))) (DE.b de_int) (nomark _)) (dw_or1 (dt_cmp (op_eqD hr.units) od_eq (DE.b (de_var 1 (pv 1))) (DE.b (de_un un_neg ud_neg (DE.b de_int))) (nomark _))))) (dss_one (ds_set 3 (ps_set (i := 3) sc__law_line_text.nd rfl (Or.inl rfl) (de_if (dt_cmp (op_eqD hr.units) od_eq (DE.b (de_var 1 (pv 1))) (DE.b de_int) (nomark _)) de_str de_str)))) dss_nil)
      (dss_cons (ds_if (dt_cmp (op_eqD hr.units) od_eq (DE.b (de_var 2 (pv 2))) (DE.b de_int) (nomark _)) (dss_one (ds_ret (de_var 3 (pv 3)))) dss_nil)
      (dss_one (ds_ret (de_op op_addD od_add (DE.b (de_op op_addD od_add (DE.b (de_var 3 (pv 3))) (DE.b (de_if (dt_cmp op_gt od_gt (DE.b (de_var 2 (pv 2))) (DE.b de_int) (nomark _)) de_str de_str)))) (DE.b (ca_lift cd_str (pe_callTy call_str_int (by rfl) bt.str_ (by decide +kernel) (dab_cons (DE.b (ca_lift cd_abs (pe_callB call_abs (by rfl) bt.abs_ (by decide +kernel) (dab_cons (DE.b (de_var 2 (pv 2))) dab_nil)))) dab_nil))))))))))))
theorem ok__law_line_text {pn : Option Addr} {f : Addr} {fd : FuncData} (F : FnP K "_law_line_text" "_law_line_text" s__law_line_text f fd) (bt : Bt mg)  (hl : ∀ ds n R Rx, sp__law_line_text ds n R Rx → ds.length = 1) (hp : ∀ ds n R Rx, sp__law_line_text ds n R Rx → (t__law_line_text K) (fnEnds R) (startD ["_law_line_here", "_law_slope", "_law_height", "_law_head"] ds) n) :
    FnOk P w K mg base CX0 1 f fd ["_law_line_here"] (liftSp K pn sp__law_line_text) :=
  dfn F sc__law_line_text hl (by decide) (der__law_line_text bt ) hp
/-! ### _law_is -/
abbrev s__law_is : Stmt := top 13
theorem sc__law_is : FnScope ["_law_line_here", "_law_due"] ["_law_line_here", "_law_due"] (defScope s__law_is) := ⟨rfl, rfl, rfl, by decide +kernel, rfl, by decide +kernel, by decide +kernel⟩
def t__law_is (K : PySem.W.Frag) (C_Line : Addr) : DS := (dRet (dAndV (dCa (fIsi K) (aCons (dVar 0) (aCons (dC (.ref C_Line)) aNil))) (dAndV (dOp (fEq true) (dTup (aCons (dFld K "slope" (dVar 0)) (aCons (dFld K "height" (dVar 0)) aNil))) (dVar 1)) (dEqO K C_Line (sp_Line___eq__ C_Line) (dVar 0) (dMake C_Line sp_Line___init__ (aCons (dOp fIx (dVar 1) (dC (.int 0))) (aCons (dOp fIx (dVar 1) (dC (.int 1))) aNil)))))))
theorem der__law_is {C_Line : Addr} {pn : Option Addr} {f : Addr} (bt : Bt mg) (h_Line___eq__ : Me P w K mg base CX0 pn 1 C_Line "__eq__" ["self", "other"] (sp_Line___eq__ C_Line)) (mk_Line : Mkc P w K mg base CX0 pn 1 "Line" C_Line ["self", "slope", "height"] sp_Line___init__) (g_Line : mg "Line" = some (.ref C_Line)) (cdv : Value) (A : Around) (outer : List Env) (s : Shared) (H : Hp) (E : XK) (hr : Room 2 (A.deeper (envOfC "_law_is" (defScope s__law_is) s.heap.objs.size f cdv))) (mu : List Addr) (Hs0 H0 : Hp) :
    PSs (cxOf CX0 P w K mg base ["_law_line_here", "_law_due"] "_law_is" (defScope s__law_is) f cdv A outer s H E).nox (defBody s__law_is) (liftS (cxOf CX0 P w K mg base ["_law_line_here", "_law_due"] "_law_is" (defScope s__law_is) f cdv A outer s H E).nox.K ⟨pn, mu, Hs0, H0, fun _ _ _ _ => False⟩ (t__law_is K C_Line)) :=
  (dss_one (ds_ret (de_and (ca_lift cd_isi (pe_callB call_isi (by rfl) bt.isinstance_ (by decide +kernel) (dab_cons (DE.b (de_var 0 (pv 0))) (dab_cons (DE.b (de_c (v := .ref C_Line) (d := .ref C_Line) (pe_glob rfl g_Line rfl) fun _ => rfl)) dab_nil)))) (de_and (de_cmp (op_eqD hr.units) od_eq (DE.b (de_tup (da_cons (de_fld (pe_fld (de_var 0 (pv 0)) rfl)) (da_cons (de_fld (pe_fld (de_var 0 (pv 0)) rfl)) da_nil)))) (DE.b (de_var 1 (pv 1))) (nomark _)) (de_one (de_eqO h_Line___eq__ (hr.mono (by decide)) (de_var 0 (pv 0)) (de_make mk_Line (hr.mono (by decide)) rfl (da_cons (de_ix ix_seq od_ix (DE.b (de_var 1 (pv 1))) (DE.b de_int) (fun _ _ => rfl)) (da_cons (de_ix ix_seq od_ix (DE.b (de_var 1 (pv 1))) (DE.b de_int) (fun _ _ => rfl)) da_nil))) (nomark _)))))))
theorem ok__law_is {C_Line : Addr} {pn : Option Addr} {f : Addr} {fd : FuncData} (F : FnP K "_law_is" "_law_is" s__law_is f fd) (bt : Bt mg) (h_Line___eq__ : Me P w K mg base CX0 pn 1 C_Line "__eq__" ["self", "other"] (sp_Line___eq__ C_Line)) (mk_Line : Mkc P w K mg base CX0 pn 1 "Line" C_Line ["self", "slope", "height"] sp_Line___init__) (g_Line : mg "Line" = some (.ref C_Line)) (hl : ∀ ds n R Rx, (sp__law_is C_Line) ds n R Rx → ds.length = 2) (hp : ∀ ds n R Rx, (sp__law_is C_Line) ds n R Rx → (t__law_is K C_Line) (fnEnds R) (startD ["_law_line_here", "_law_due"] ds) n) :
    FnOk P w K mg base CX0 3 f fd ["_law_line_here", "_law_due"] (liftSp K pn (sp__law_is C_Line)) :=
  dfn F sc__law_is hl (by decide) (der__law_is (C_Line := C_Line) bt h_Line___eq__ mk_Line g_Line) hp
/-! ### law -/
abbrev s_law : Stmt := top 14
theorem sc_law : FnScope ["_law_script", "_law_pen_here", "_law_turn", "_law_a", "_law_b", "_law_n", "_law_one", "_law_two", "_law_x", "_law_by"] ["_law_script"] (defScope s_law) := ⟨rfl, rfl, rfl, by decide +kernel, rfl, by decide +kernel, by decide +kernel⟩
def t_law (K : PySem.W.Frag) (C_Line : Addr) (p : Addr) : DS := (dSeq (dForR (aCons (dOp fAdd (dC (.int 3)) (dCa fMin (aCons (dC (.int 3)) (aCons (dCa fLen (aCons (dVar 0) aNil)) aNil)))) aNil) (dgN 2) (dSeq (dPar3 3 4 5 (aCons (dCall (sp__law_line p) (aCons (dVar 1) aNil)) (aCons (dCall (sp__law_line p) (aCons (dVar 1) aNil)) (aCons (dCall (sp__law_whole p) (aCons (dVar 1) aNil)) aNil))))
  (dSeq (dPar 6 7 (aCons (dMake C_Line sp_Line___init__ (aCons (dOp fIx (dVar 3) (dC (.int 0))) (aCons (dOp fIx (dVar 3) (dC (.int 1))) aNil))) (aCons (dMake C_Line sp_Line___init__ (aCons (dOp fIx (dVar 4) (dC (.int 0))) (aCons (dOp fIx (dVar 4) (dC (.int 1))) aNil))) aNil)))
  (dSeq (dIfS (dOr (dNot (dTest (dCall (sp__law_is C_Line) (aCons (dOpO C_Line (sp_Line___add__ C_Line) (dVar 6) (dVar 7)) (aCons (dTup (aCons (dOp fAdd (dOp fIx (dVar 3) (dC (.int 0))) (dOp fIx (dVar 4) (dC (.int 0)))) (aCons (dOp fAdd (dOp fIx (dVar 3) (dC (.int 1))) (dOp fIx (dVar 4) (dC (.int 1)))) aNil))) aNil))))) (dNot (dTest (dCall (sp__law_is C_Line) (aCons (dOpO C_Line (sp_Line___sub__ C_Line) (dVar 6) (dVar 7)) (aCons (dTup (aCons (dOp fSub (dOp fIx (dVar 3) (dC (.int 0))) (dOp fIx (dVar 4) (dC (.int 0)))) (aCons (dOp fSub (dOp fIx (dVar 3) (dC (.int 1))) (dOp fIx (dVar 4) (dC (.int 1)))) aNil))) aNil)))))) (dRet (dC (.bl false))) dNext)
  (dSeq (dIfS (dOr (dNot (dTest (dCall (sp__law_is C_Line) (aCons (dOpO C_Line (sp_Line___add__ C_Line) (dVar 6) (dVar 5)) (aCons (dTup (aCons (dOp fIx (dVar 3) (dC (.int 0))) (aCons (dOp fAdd (dOp fIx (dVar 3) (dC (.int 1))) (dVar 5)) aNil))) aNil))))) (dNot (dTest (dCall (sp__law_is C_Line) (aCons (dOpRf C_Line (sp_Line___radd__ C_Line) (dVar 5) (dVar 6)) (aCons (dTup (aCons (dOp fIx (dVar 3) (dC (.int 0))) (aCons (dOp fAdd (dOp fIx (dVar 3) (dC (.int 1))) (dVar 5)) aNil))) aNil)))))) (dRet (dC (.bl false))) dNext)
  (dSeq (dIfS (dOr (dNot (dTest (dCall (sp__law_is C_Line) (aCons (dOpO C_Line (sp_Line___sub__ C_Line) (dVar 6) (dVar 5)) (aCons (dTup (aCons (dOp fIx (dVar 3) (dC (.int 0))) (aCons (dOp fSub (dOp fIx (dVar 3) (dC (.int 1))) (dVar 5)) aNil))) aNil))))) (dNot (dTest (dCall (sp__law_is C_Line) (aCons (dOpRf C_Line (sp_Line___rsub__ C_Line) (dVar 5) (dVar 6)) (aCons (dTup (aCons (dUn fNeg (dOp fIx (dVar 3) (dC (.int 0)))) (aCons (dOp fSub (dVar 5) (dOp fIx (dVar 3) (dC (.int 1)))) aNil))) aNil)))))) (dRet (dC (.bl false))) dNext)
  (dSeq (dIfS (dOr (dNot (dTest (dCall (sp__law_is C_Line) (aCons (dOpO C_Line (sp_Line___mul__ C_Line) (dVar 6) (dVar 5)) (aCons (dTup (aCons (dOp fMul (dOp fIx (dVar 3) (dC (.int 0))) (dVar 5)) (aCons (dOp fMul (dOp fIx (dVar 3) (dC (.int 1))) (dVar 5)) aNil))) aNil))))) (dNot (dTest (dCall (sp__law_is C_Line) (aCons (dOpRf C_Line (sp_Line___rmul__ C_Line) (dVar 5) (dVar 6)) (aCons (dTup (aCons (dOp fMul (dOp fIx (dVar 3) (dC (.int 0))) (dVar 5)) (aCons (dOp fMul (dOp fIx (dVar 3) (dC (.int 1))) (dVar 5)) aNil))) aNil)))))) (dRet (dC (.bl false))) dNext)
  (dSeq (dIfS (dOr (dNot (dTest (dCall (sp__law_is C_Line) (aCons (dUnO C_Line (sp_Line___neg__ C_Line) (dVar 6)) (aCons (dTup (aCons (dUn fNeg (dOp fIx (dVar 3) (dC (.int 0)))) (aCons (dUn fNeg (dOp fIx (dVar 3) (dC (.int 1)))) aNil))) aNil))))) (dOr (dTest (dOp (fEq false) (dEqO K C_Line (sp_Line___eq__ C_Line) (dVar 6) (dVar 7)) (dOp (fEq true) (dVar 3) (dVar 4)))) (dOr (dTest (dOp (fEq false) (dNeO K C_Line (sp_Line___eq__ C_Line) (dVar 6) (dVar 7)) (dOp (fEq false) (dVar 3) (dVar 4)))) (dTest (dEqO K C_Line (sp_Line___eq__ C_Line) (dVar 6) (dVar 3)))))) (dRet (dC (.bl false))) dNext)
  (dSeq (dFor (dLst (aCons (dC (.int 0)) (aCons (dC (.int 1)) (aCons (dUn fNeg (dC (.int 1))) (aCons (dCall (sp__law_whole p) (aCons (dVar 1) aNil)) (aCons (dCall (sp__law_spot p) (aCons (dVar 1) aNil)) aNil)))))) (dgN 8) (dSeq (dSet 9 (dCall (sp__law_whole p) (aCons (dVar 1) aNil)))
  (dSeq (dIfS (dOr (dTest (dOp (fEq false) (dCallO C_Line (sp_Line___call__ C_Line) (dVar 6) (aCons (dVar 8) aNil)) (dCall sp__law_worth (aCons (dVar 3) (aCons (dVar 8) aNil))))) (dTest (dOp (fEq false) (dCallO C_Line (sp_Line___call__ C_Line) (dMeth C_Line "moved" (sp_Line_moved C_Line) (dVar 6) (aCons (dVar 9) aNil)) (aCons (dVar 8) aNil)) (dCall sp__law_worth (aCons (dVar 3) (aCons (dOp fSub (dVar 8) (dVar 9)) aNil)))))) (dRet (dC (.bl false))) dNext)
  (dSeq (dIfS (dOr (dTest (dOp (fEq false) (dCallO C_Line (sp_Line___call__ C_Line) (dMeth C_Line "mirrored" (sp_Line_mirrored C_Line) (dVar 6) (aCons (dVar 9) aNil)) (aCons (dVar 8) aNil)) (dCall sp__law_worth (aCons (dVar 3) (aCons (dOp fSub (dVar 9) (dVar 8)) aNil))))) (dTest (dOp (fEq false) (dCallO C_Line (sp_Line___call__ C_Line) (dOpO C_Line (sp_Line___sub__ C_Line) (dVar 6) (dVar 7)) (aCons (dVar 8) aNil)) (dOp fSub (dCallO C_Line (sp_Line___call__ C_Line) (dVar 6) (aCons (dVar 8) aNil)) (dCallO C_Line (sp_Line___call__ C_Line) (dVar 7) (aCons (dVar 8) aNil)))))) (dRet (dC (.bl false))) dNext)
  (dIfS (dOr (dTest (dNeO K C_Line (sp_Line___eq__ C_Line) (dMeth C_Line "moved" (sp_Line_moved C_Line) (dMeth C_Line "moved" (sp_Line_moved C_Line) (dVar 6) (aCons (dVar 9) aNil)) (aCons (dUn fNeg (dVar 9)) aNil)) (dVar 6))) (dTest (dNeO K C_Line (sp_Line___eq__ C_Line) (dMeth C_Line "mirrored" (sp_Line_mirrored C_Line) (dMeth C_Line "mirrored" (sp_Line_mirrored C_Line) (dVar 6) (aCons (dVar 9) aNil)) (aCons (dVar 9) aNil)) (dVar 6)))) (dRet (dC (.bl false))) dNext)))))
  (dSeq (dIfS (dOr (dTest (dOp (fEq false) (dMeth C_Line "text" (sp_Line_text C_Line) (dVar 6) aNil) (dCall sp__law_line_text (aCons (dVar 3) aNil)))) (dTest (dOp (fEq false) (dMeth C_Line "text" (sp_Line_text C_Line) (dVar 7) aNil) (dCall sp__law_line_text (aCons (dVar 4) aNil))))) (dRet (dC (.bl false))) dNext)
  (dIfS (dOr (dNot (dTest (dCall (sp__law_is C_Line) (aCons (dVar 6) (aCons (dVar 3) aNil))))) (dNot (dTest (dCall (sp__law_is C_Line) (aCons (dVar 7) (aCons (dVar 4) aNil)))))) (dRet (dC (.bl false))) dNext)))))))))))
  (dRet (dOp (fEq true) (dLst (aCons (dMeth C_Line "text" (sp_Line_text C_Line) (dMake C_Line sp_Line___init__ (aCons (dC (.int 0)) (aCons (dC (.int 0)) aNil))) aNil) (aCons (dMeth C_Line "text" (sp_Line_text C_Line) (dMake C_Line sp_Line___init__ (aCons (dUn fNeg (dC (.int 1))) (aCons (dUn fNeg (dC (.int 2))) aNil))) aNil) (aCons (dMeth C_Line "text" (sp_Line_text C_Line) (dMake C_Line sp_Line___init__ (aCons (dC (.int 1)) (aCons (dC (.int 0)) aNil))) aNil) (aCons (dMeth C_Line "text" (sp_Line_text C_Line) (dMake C_Line sp_Line___init__ (aCons (dC (.int 0)) (aCons (dUn fNeg (dC (.int 7))) aNil))) aNil) aNil))))) (dLst (aCons (dC (.str "0")) (aCons (dC (.str "-x - 2")) (aCons (dC (.str "x")) (aCons (dC (.str "-7")) aNil))))))))
theorem der_law {C_Line : Addr} {p : Addr} {f : Addr} (bt : Bt mg) (h__law_whole : Fn P w K mg base CX0 (some p) 3 "_law_whole" ["_law_pen_here"] (sp__law_whole p)) (h__law_line : Fn P w K mg base CX0 (some p) 4 "_law_line" ["_law_pen_here"] (sp__law_line p)) (mk_Line : Mkc P w K mg base CX0 (some p) 1 "Line" C_Line ["self", "slope", "height"] sp_Line___init__) (h__law_is : Fn P w K mg base CX0 (some p) 3 "_law_is" ["_law_line_here", "_law_due"] (sp__law_is C_Line)) (h_Line___add__ : Me P w K mg base CX0 (some p) 4 C_Line "__add__" ["self", "other"] (sp_Line___add__ C_Line)) (oc_Line_Add : OpC K C_Line .Add) (h_Line___sub__ : Me P w K mg base CX0 (some p) 4 C_Line "__sub__" ["self", "other"] (sp_Line___sub__ C_Line)) (oc_Line_Sub : OpC K C_Line .Sub) (h_Line___radd__ : Me P w K mg base CX0 (some p) 5 C_Line "__radd__" ["self", "other"] (sp_Line___radd__ C_Line)) (rc_Line_Add : OpRf K C_Line .Add) (h_Line___rsub__ : Me P w K mg base CX0 (some p) 5 C_Line "__rsub__" ["self", "other"] (sp_Line___rsub__ C_Line)) (rc_Line_Sub : OpRf K C_Line .Sub) (h_Line___mul__ : Me P w K mg base CX0 (some p) 3 C_Line "__mul__" ["self", "factor"] (sp_Line___mul__ C_Line)) (oc_Line_Mult : OpC K C_Line .Mult) (h_Line___rmul__ : Me P w K mg base CX0 (some p) 4 C_Line "__rmul__" ["self", "factor"] (sp_Line___rmul__ C_Line)) (rc_Line_Mult : OpRf K C_Line .Mult) (h_Line___neg__ : Me P w K mg base CX0 (some p) 3 C_Line "__neg__" ["self"] (sp_Line___neg__ C_Line)) (h_Line___eq__ : Me P w K mg base CX0 (some p) 1 C_Line "__eq__" ["self", "other"] (sp_Line___eq__ C_Line)) (eqc_Line : EqC K C_Line) (h__law_spot : Fn P w K mg base CX0 (some p) 2 "_law_spot" ["_law_pen_here"] (sp__law_spot p)) (h_Line___call__ : MeC P w K mg base CX0 (some p) 2 C_Line ["self", "x"] (sp_Line___call__ C_Line)) (h__law_worth : Fn P w K mg base CX0 (some p) 1 "_law_worth" ["_law_line_here", "_law_x"] sp__law_worth) (h_Line_moved : Me P w K mg base CX0 (some p) 3 C_Line "moved" ["self", "by"] (sp_Line_moved C_Line)) (h_Line_mirrored : Me P w K mg base CX0 (some p) 3 C_Line "mirrored" ["self", "last"] (sp_Line_mirrored C_Line)) (h_Line_text : Me P w K mg base CX0 (some p) 1 C_Line "text" ["self"] (sp_Line_text C_Line)) (h__law_line_text : Fn P w K mg base CX0 (some p) 1 "_law_line_text" ["_law_line_here"] sp__law_line_text) (cdv : Value) (A : Around) (outer : List Env) (s : Shared) (H : Hp) (E : XK) (hr : Room 5 (A.deeper (envOfC "law" (defScope s_law) s.heap.objs.size f cdv))) (mu : List Addr) (Hs0 H0 : Hp) :
    PSs (cxOf CX0 P w K mg base ["_law_script", "_law_pen_here", "_law_turn", "_law_a", "_law_b", "_law_n", "_law_one", "_law_two", "_law_x", "_law_by"] "law" (defScope s_law) f cdv A outer s H E).nox (defBody s_law).tail (liftS (cxOf CX0 P w K mg base ["_law_script", "_law_pen_here", "_law_turn", "_law_a", "_law_b", "_law_n", "_law_one", "_law_two", "_law_x", "_law_by"] "law" (defScope s_law) f cdv A outer s H E).nox.K ⟨(some p), mu, Hs0, H0, fun _ _ _ _ => False⟩ (t_law K C_Line p)) :=
  (dss_cons (ds_forR (ps_for PassesOwn.never rfl (pi_range1 rfl bt.range_ (da_cons (de_op op_addD od_add (DE.b de_int) (DE.b (ca_lift cd_min (pe_callB (call_min2 rfl) (by rfl) bt.min_ (by decide +kernel) (dab_cons (DE.b de_int) (dab_cons (DE.b (ca_lift cd_len (pe_callB call_len (by rfl) bt.len_ PySem.boot_len (dab_cons (DE.b (de_var 0 (pv 0))) dab_nil)))) dab_nil)))))) da_nil)) (dg_name 2 (ws := [2]) (by decide) (pg_name (i := 2) sc_law.nd rfl (Or.inl rfl))) (dss_cons (ds_par3 3 4 5 (ps_par3 rfl sc_law.nd rfl rfl rfl (by decide) (by decide) (by decide) rfl rfl rfl (da_cons (de_call h__law_line (hr.mono (by decide)) rfl (da_cons (de_var 1 (pv 1)) da_nil)) (da_cons (de_call h__law_line (hr.mono (by decide)) rfl (da_cons (de_var 1 (pv 1)) da_nil)) (da_cons (de_call h__law_whole (hr.mono (by decide)) rfl (da_cons (de_var 1 (pv 1)) da_nil)) da_nil))) rfl))
      (dss_cons (ds_par 6 7 (ps_par rfl sc_law.nd rfl rfl (by decide) rfl rfl (da_cons (de_make mk_Line (hr.mono (by decide)) rfl (da_cons (de_ix ix_seq od_ix (DE.b (de_var 3 (pv 3))) (DE.b de_int) (fun _ _ => rfl)) (da_cons (de_ix ix_seq od_ix (DE.b (de_var 3 (pv 3))) (DE.b de_int) (fun _ _ => rfl)) da_nil))) (da_cons (de_make mk_Line (hr.mono (by decide)) rfl (da_cons (de_ix ix_seq od_ix (DE.b (de_var 4 (pv 4))) (DE.b de_int) (fun _ _ => rfl)) (da_cons (de_ix ix_seq od_ix (DE.b (de_var 4 (pv 4))) (DE.b de_int) (fun _ _ => rfl)) da_nil))) da_nil)) rfl))
      (dss_cons (ds_if (PW.pt (dw_or (dt_not (dt_val (de_call h__law_is (hr.mono (by decide)) rfl (da_cons (de_opO oc_Line_Add h_Line___add__ rfl (hr.mono (by decide)) (de_var 6 (pv 6)) (de_var 7 (pv 7))) (da_cons (de_tup (da_cons (de_op op_addD od_add (DE.b (de_ix ix_seq od_ix (DE.b (de_var 3 (pv 3))) (DE.b de_int) (fun _ _ => rfl))) (DE.b (de_ix ix_seq od_ix (DE.b (de_var 4 (pv 4))) (DE.b de_int) (fun _ _ => rfl)))) (da_cons (de_op op_addD od_add (DE.b (de_ix ix_seq od_ix (DE.b (de_var 3 (pv 3))) (DE.b de_int) (fun _ _ => rfl))) (DE.b (de_ix ix_seq od_ix (DE.b (de_var 4 (pv 4))) (DE.b de_int) (fun _ _ => rfl)))) da_nil))) da_nil))))) (dw_or1 (dt_not (dt_val (de_call h__law_is (hr.mono (by decide)) rfl (da_cons (de_opO oc_Line_Sub h_Line___sub__ rfl (hr.mono (by decide)) (de_var 6 (pv 6)) (de_var 7 (pv 7))) (da_cons (de_tup (da_cons (de_op op_sub od_sub (DE.b (de_ix ix_seq od_ix (DE.b (de_var 3 (pv 3))) (DE.b de_int) (fun _ _ => rfl))) (DE.b (de_ix ix_seq od_ix (DE.b (de_var 4 (pv 4))) (DE.b de_int) (fun _ _ => rfl)))) (da_cons (de_op op_sub od_sub (DE.b (de_ix ix_seq od_ix (DE.b (de_var 3 (pv 3))) (DE.b de_int) (fun _ _ => rfl))) (DE.b (de_ix ix_seq od_ix (DE.b (de_var 4 (pv 4))) (DE.b de_int) (fun _ _ => rfl)))) da_nil))) da_nil)))))))) (dss_one (ds_ret de_bl)) dss_nil)
      (dss_cons (ds_if (PW.pt (dw_or (dt_not (dt_val (de_call h__law_is (hr.mono (by decide)) rfl (da_cons (de_opO oc_Line_Add h_Line___add__ rfl (hr.mono (by decide)) (de_var 6 (pv 6)) (de_var 5 (pv 5))) (da_cons (de_tup (da_cons (de_ix ix_seq od_ix (DE.b (de_var 3 (pv 3))) (DE.b de_int) (fun _ _ => rfl)) (da_cons (de_op op_addD od_add (DE.b (de_ix ix_seq od_ix (DE.b (de_var 3 (pv 3))) (DE.b de_int) (fun _ _ => rfl))) (DE.b (de_var 5 (pv 5)))) da_nil))) da_nil))))) (dw_or1 (dt_not (dt_val (de_call h__law_is (hr.mono (by decide)) rfl (da_cons (de_opRf rc_Line_Add intop_add h_Line___radd__ rfl (hr.mono (by decide)) (de_var 5 (pv 5)) (de_var 6 (pv 6))) (da_cons (de_tup (da_cons (de_ix ix_seq od_ix (DE.b (de_var 3 (pv 3))) (DE.b de_int) (fun _ _ => rfl)) (da_cons (de_op op_addD od_add (DE.b (de_ix ix_seq od_ix (DE.b (de_var 3 (pv 3))) (DE.b de_int) (fun _ _ => rfl))) (DE.b (de_var 5 (pv 5)))) da_nil))) da_nil)))))))) (dss_one (ds_ret de_bl)) dss_nil)
      (dss_cons (ds_if (PW.pt (dw_or (dt_not (dt_val (de_call h__law_is (hr.mono (by decide)) rfl (da_cons (de_opO oc_Line_Sub h_Line___sub__ rfl (hr.mono (by decide)) (de_var 6 (pv 6)) (de_var 5 (pv 5))) (da_cons (de_tup (da_cons (de_ix ix_seq od_ix (DE.b (de_var 3 (pv 3))) (DE.b de_int) (fun _ _ => rfl)) (da_cons (de_op op_sub od_sub (DE.b (de_ix ix_seq od_ix (DE.b (de_var 3 (pv 3))) (DE.b de_int) (fun _ _ => rfl))) (DE.b (de_var 5 (pv 5)))) da_nil))) da_nil))))) (dw_or1 (dt_not (dt_val (de_call h__law_is (hr.mono (by decide)) rfl (da_cons (de_opRf rc_Line_Sub intop_sub h_Line___rsub__ rfl (hr.mono (by decide)) (de_var 5 (pv 5)) (de_var 6 (pv 6))) (da_cons (de_tup (da_cons (de_un un_neg ud_neg (DE.b (de_ix ix_seq od_ix (DE.b (de_var 3 (pv 3))) (DE.b de_int) (fun _ _ => rfl)))) (da_cons (de_op op_sub od_sub (DE.b (de_var 5 (pv 5))) (DE.b (de_ix ix_seq od_ix (DE.b (de_var 3 (pv 3))) (DE.b de_int) (fun _ _ => rfl)))) da_nil))) da_nil)))))))) (dss_one (ds_ret de_bl)) dss_nil)
      (dss_cons (ds_if (PW.pt (dw_or (dt_not (dt_val (de_call h__law_is (hr.mono (by decide)) rfl (da_cons (de_opO oc_Line_Mult h_Line___mul__ rfl (hr.mono (by decide)) (de_var 6 (pv 6)) (de_var 5 (pv 5))) (da_cons (de_tup (da_cons (de_op op_mulO od_mul (DE.b (de_ix ix_seq od_ix (DE.b (de_var 3 (pv 3))) (DE.b de_int) (fun _ _ => rfl))) (DE.b (de_var 5 (pv 5)))) (da_cons (de_op op_mulO od_mul (DE.b (de_ix ix_seq od_ix (DE.b (de_var 3 (pv 3))) (DE.b de_int) (fun _ _ => rfl))) (DE.b (de_var 5 (pv 5)))) da_nil))) da_nil))))) (dw_or1 (dt_not (dt_val (de_call h__law_is (hr.mono (by decide)) rfl (da_cons (de_opRf rc_Line_Mult intop_mul h_Line___rmul__ rfl (hr.mono (by decide)) (de_var 5 (pv 5)) (de_var 6 (pv 6))) (da_cons (de_tup (da_cons (de_op op_mulO od_mul (DE.b (de_ix ix_seq od_ix (DE.b (de_var 3 (pv 3))) (DE.b de_int) (fun _ _ => rfl))) (DE.b (de_var 5 (pv 5)))) (da_cons (de_op op_mulO od_mul (DE.b (de_ix ix_seq od_ix (DE.b (de_var 3 (pv 3))) (DE.b de_int) (fun _ _ => rfl))) (DE.b (de_var 5 (pv 5)))) da_nil))) da_nil)))))))) (dss_one (ds_ret de_bl)) dss_nil)
      (dss_cons (ds_if (PW.pt (dw_or (dt_not (dt_val (de_call h__law_is (hr.mono (by decide)) rfl (da_cons (de_negO h_Line___neg__ (hr.mono (by decide)) (de_var 6 (pv 6))) (da_cons (de_tup (da_cons (de_un un_neg ud_neg (DE.b (de_ix ix_seq od_ix (DE.b (de_var 3 (pv 3))) (DE.b de_int) (fun _ _ => rfl)))) (da_cons (de_un un_neg ud_neg (DE.b (de_ix ix_seq od_ix (DE.b (de_var 3 (pv 3))) (DE.b de_int) (fun _ _ => rfl)))) da_nil))) da_nil))))) (dw_or (dt_cmp (op_neD hr.units) od_ne (DE.b (de_eqO h_Line___eq__ (hr.mono (by decide)) (de_var 6 (pv 6)) (de_var 7 (pv 7)) (nomark _))) (DE.b (de_cmp (op_eqD hr.units) od_eq (DE.b (de_var 3 (pv 3))) (DE.b (de_var 4 (pv 4))) (nomark _))) (nomark _)) (dw_or (dt_cmp (op_neD hr.units) od_ne (DE.b (de_neO eqc_Line h_Line___eq__ (hr.mono (by decide)) (de_var 6 (pv 6)) (de_var 7 (pv 7)) (nomark _))) (DE.b (de_cmp (op_neD hr.units) od_ne (DE.b (de_var 3 (pv 3))) (DE.b (de_var 4 (pv 4))) (nomark _))) (nomark _)) (dw_or1 (dt_eqO h_Line___eq__ (hr.mono (by decide)) (de_var 6 (pv 6)) (de_var 3 (pv 3)) (nomark _))))))) (dss_one (ds_ret de_bl)) dss_nil)
      (dss_cons (ds_for (ps_for PassesOwn.never rfl (pi_seq (de_lst (da_cons de_int (da_cons de_int (da_cons (de_un un_neg ud_neg (DE.b de_int)) (da_cons (de_call h__law_whole (hr.mono (by decide)) rfl (da_cons (de_var 1 (pv 1)) da_nil)) (da_cons (de_call h__law_spot (hr.mono (by decide)) rfl (da_cons (de_var 1 (pv 1)) da_nil)) da_nil))))))) (dg_name 8 (ws := [8]) (by decide) (pg_name (i := 8) sc_law.nd rfl (Or.inl rfl))) (dss_cons (ds_set 9 (ps_set (i := 9) sc_law.nd rfl (Or.inl rfl) (de_call h__law_whole (hr.mono (by decide)) rfl (da_cons (de_var 1 (pv 1)) da_nil))))
      (dss_cons (ds_if (PW.pt (dw_or (dt_cmp (op_neD hr.units) od_ne (DE.b (de_callO h_Line___call__ (hr.mono (by decide)) (de_var 6 (pv 6)) (da_cons (de_var 8 (pv 8)) da_nil))) (DE.b (de_call h__law_worth (hr.mono (by decide)) rfl (da_cons (de_var 3 (pv 3)) (da_cons (de_var 8 (pv 8)) da_nil)))) (nomark _)) (dw_or1 (dt_cmp (op_neD hr.units) od_ne (DE.b (de_callO h_Line___call__ (hr.mono (by decide)) (de_meth h_Line_moved (hr.mono (by decide)) (de_var 6 (pv 6)) (da_cons (de_var 9 (pv 9)) da_nil)) (da_cons (de_var 8 (pv 8)) da_nil))) (DE.b (de_call h__law_worth (hr.mono (by decide)) rfl (da_cons (de_var 3 (pv 3)) (da_cons (de_op op_sub od_sub (DE.b (de_var 8 (pv 8))) (DE.b (de_var 9 (pv 9)))) da_nil)))) (nomark _))))) (dss_one (ds_ret de_bl)) dss_nil)
      (dss_cons (ds_if (PW.pt (dw_or (dt_cmp (op_neD hr.units) od_ne (DE.b (de_callO h_Line___call__ (hr.mono (by decide)) (de_meth h_Line_mirrored (hr.mono (by decide)) (de_var 6 (pv 6)) (da_cons (de_var 9 (pv 9)) da_nil)) (da_cons (de_var 8 (pv 8)) da_nil))) (DE.b (de_call h__law_worth (hr.mono (by decide)) rfl (da_cons (de_var 3 (pv 3)) (da_cons (de_op op_sub od_sub (DE.b (de_var 9 (pv 9))) (DE.b (de_var 8 (pv 8)))) da_nil)))) (nomark _)) (dw_or1 (dt_cmp (op_neD hr.units) od_ne (DE.b (de_callO h_Line___call__ (hr.mono (by decide)) (de_opO oc_Line_Sub h_Line___sub__ rfl (hr.mono (by decide)) (de_var 6 (pv 6)) (de_var 7 (pv 7))) (da_cons (de_var 8 (pv 8)) da_nil))) (DE.b (de_op op_sub od_sub (DE.b (de_callO h_Line___call__ (hr.mono (by decide)) (de_var 6 (pv 6)) (da_cons (de_var 8 (pv 8)) da_nil))) (DE.b (de_callO h_Line___call__ (hr.mono (by decide)) (de_var 7 (pv 7)) (da_cons (de_var 8 (pv 8)) da_nil))))) (nomark _))))) (dss_one (ds_ret de_bl)) dss_nil)
      (dss_one (ds_if (PW.pt (dw_or (dt_neO eqc_Line h_Line___eq__ (hr.mono (by decide)) (de_meth h_Line_moved (hr.mono (by decide)) (de_meth h_Line_moved (hr.mono (by decide)) (de_var 6 (pv 6)) (da_cons (de_var 9 (pv 9)) da_nil)) (da_cons (de_un un_neg ud_neg (DE.b (de_var 9 (pv 9)))) da_nil)) (de_var 6 (pv 6)) (nomark _)) (dw_or1 (dt_neO eqc_Line h_Line___eq__ (hr.mono (by decide)) (de_meth h_Line_mirrored (hr.mono (by decide)) (de_meth h_Line_mirrored (hr.mono (by decide)) (de_var 6 (pv 6)) (da_cons (de_var 9 (pv 9)) da_nil)) (da_cons (de_var 9 (pv 9)) da_nil)) (de_var 6 (pv 6)) (nomark _))))) (dss_one (ds_ret de_bl)) dss_nil)))))))
      (dss_cons (ds_if (PW.pt (dw_or (dt_cmp (op_neD hr.units) od_ne (DE.b (de_meth0 h_Line_text (hr.mono (by decide)) (de_var 6 (pv 6)))) (DE.b (de_call h__law_line_text (hr.mono (by decide)) rfl (da_cons (de_var 3 (pv 3)) da_nil))) (nomark _)) (dw_or1 (dt_cmp (op_neD hr.units) od_ne (DE.b (de_meth0 h_Line_text (hr.mono (by decide)) (de_var 7 (pv 7)))) (DE.b (de_call h__law_line_text (hr.mono (by decide)) rfl (da_cons (de_var 4 (pv 4)) da_nil))) (nomark _))))) (dss_one (ds_ret de_bl)) dss_nil)
      (dss_one (ds_if (PW.pt (dw_or (dt_not (dt_val (de_call h__law_is (hr.mono (by decide)) rfl (da_cons (de_var 6 (pv 6)) (da_cons (de_var 3 (pv 3)) da_nil))))) (dw_or1 (dt_not (dt_val (de_call h__law_is (hr.mono (by decide)) rfl (da_cons (de_var 7 (pv 7)) (da_cons (de_var 4 (pv 4)) da_nil)))))))) (dss_one (ds_ret de_bl)) dss_nil)))))))))))))
      (dss_one (ds_ret (de_cmp (op_eqD hr.units) od_eq (DE.b (de_lst (da_cons (de_meth0 h_Line_text (hr.mono (by decide)) (de_make mk_Line (hr.mono (by decide)) rfl (da_cons de_int (da_cons de_int da_nil)))) (da_cons (de_meth0 h_Line_text (hr.mono (by decide)) (de_make mk_Line (hr.mono (by decide)) rfl (da_cons (de_un un_neg ud_neg (DE.b de_int)) (da_cons (de_un un_neg ud_neg (DE.b de_int)) da_nil)))) (da_cons (de_meth0 h_Line_text (hr.mono (by decide)) (de_make mk_Line (hr.mono (by decide)) rfl (da_cons de_int (da_cons de_int da_nil)))) (da_cons (de_meth0 h_Line_text (hr.mono (by decide)) (de_make mk_Line (hr.mono (by decide)) rfl (da_cons de_int (da_cons (de_un un_neg ud_neg (DE.b de_int)) da_nil)))) da_nil)))))) (DE.b (de_lst (da_cons de_str (da_cons de_str (da_cons de_str (da_cons de_str da_nil)))))) (nomark _)))))
theorem ok_law {C_Line : Addr} {f fP : Addr} {fd fdP : FuncData} (F : FnP K "law" "law" s_law f fd) (bt : Bt mg) (GP : FnOk P w K mg base CX0 1 fP fdP ["_law_script"] (spPen K)) (mP : mg "_law_pen" = some (.ref fP)) (kP : PySem.W.keepIn K (.ref fP) = true) (bP : Binds K fdP ["_law_script"] []) (h__law_whole : ∀ p : Addr, Fn P w K mg base CX0 (some p) 3 "_law_whole" ["_law_pen_here"] (sp__law_whole p)) (h__law_line : ∀ p : Addr, Fn P w K mg base CX0 (some p) 4 "_law_line" ["_law_pen_here"] (sp__law_line p)) (mk_Line : ∀ p : Addr, Mkc P w K mg base CX0 (some p) 1 "Line" C_Line ["self", "slope", "height"] sp_Line___init__) (h__law_is : ∀ p : Addr, Fn P w K mg base CX0 (some p) 3 "_law_is" ["_law_line_here", "_law_due"] (sp__law_is C_Line)) (h_Line___add__ : ∀ p : Addr, Me P w K mg base CX0 (some p) 4 C_Line "__add__" ["self", "other"] (sp_Line___add__ C_Line)) (oc_Line_Add : OpC K C_Line .Add) (h_Line___sub__ : ∀ p : Addr, Me P w K mg base CX0 (some p) 4 C_Line "__sub__" ["self", "other"] (sp_Line___sub__ C_Line)) (oc_Line_Sub : OpC K C_Line .Sub) (h_Line___radd__ : ∀ p : Addr, Me P w K mg base CX0 (some p) 5 C_Line "__radd__" ["self", "other"] (sp_Line___radd__ C_Line)) (rc_Line_Add : OpRf K C_Line .Add) (h_Line___rsub__ : ∀ p : Addr, Me P w K mg base CX0 (some p) 5 C_Line "__rsub__" ["self", "other"] (sp_Line___rsub__ C_Line)) (rc_Line_Sub : OpRf K C_Line .Sub) (h_Line___mul__ : ∀ p : Addr, Me P w K mg base CX0 (some p) 3 C_Line "__mul__" ["self", "factor"] (sp_Line___mul__ C_Line)) (oc_Line_Mult : OpC K C_Line .Mult) (h_Line___rmul__ : ∀ p : Addr, Me P w K mg base CX0 (some p) 4 C_Line "__rmul__" ["self", "factor"] (sp_Line___rmul__ C_Line)) (rc_Line_Mult : OpRf K C_Line .Mult) (h_Line___neg__ : ∀ p : Addr, Me P w K mg base CX0 (some p) 3 C_Line "__neg__" ["self"] (sp_Line___neg__ C_Line)) (h_Line___eq__ : ∀ p : Addr, Me P w K mg base CX0 (some p) 1 C_Line "__eq__" ["self", "other"] (sp_Line___eq__ C_Line)) (eqc_Line : EqC K C_Line) (h__law_spot : ∀ p : Addr, Fn P w K mg base CX0 (some p) 2 "_law_spot" ["_law_pen_here"] (sp__law_spot p)) (h_Line___call__ : ∀ p : Addr, MeC P w K mg base CX0 (some p) 2 C_Line ["self", "x"] (sp_Line___call__ C_Line)) (h__law_worth : ∀ p : Addr, Fn P w K mg base CX0 (some p) 1 "_law_worth" ["_law_line_here", "_law_x"] sp__law_worth) (h_Line_moved : ∀ p : Addr, Me P w K mg base CX0 (some p) 3 C_Line "moved" ["self", "by"] (sp_Line_moved C_Line)) (h_Line_mirrored : ∀ p : Addr, Me P w K mg base CX0 (some p) 3 C_Line "mirrored" ["self", "last"] (sp_Line_mirrored C_Line)) (h_Line_text : ∀ p : Addr, Me P w K mg base CX0 (some p) 1 C_Line "text" ["self"] (sp_Line_text C_Line)) (h__law_line_text : ∀ p : Addr, Fn P w K mg base CX0 (some p) 1 "_law_line_text" ["_law_line_here"] sp__law_line_text)
    (hp : ∀ p ns, ns.length ≤ 63 → (t_law K C_Line p) lawEnds (lawEnv ["_law_turn", "_law_a", "_law_b", "_law_n", "_law_one", "_law_two", "_law_x", "_law_by"] ns p) 0) : FnOk P w K mg base CX0 6 f fd ["_law_script"] (spLaw K) :=
  dlaw (t := fun p => (t_law K C_Line p)) (st0 := (defBody s_law).headD (.Pass ⟨0, 0, 0, 0⟩)) (rest := (defBody s_law).tail) F sc_law rfl (fun cdv A outer s H E hr => ps_set (i := 1) sc_law.nd rfl (Or.inl rfl) (pe_call GP (hr.mono (by decide)) rfl mP kP bP .nil pass0 (pa_cons (pv 0) pa_nil))) (fun p => der_law (C_Line := C_Line) bt (h__law_whole p) (h__law_line p) (mk_Line p) (h__law_is p) (h_Line___add__ p) oc_Line_Add (h_Line___sub__ p) oc_Line_Sub (h_Line___radd__ p) rc_Line_Add (h_Line___rsub__ p) rc_Line_Sub (h_Line___mul__ p) oc_Line_Mult (h_Line___rmul__ p) rc_Line_Mult (h_Line___neg__ p) (h_Line___eq__ p) eqc_Line (h__law_spot p) (h_Line___call__ p) (h__law_worth p) (h_Line_moved p) (h_Line_mirrored p) (h_Line_text p) (h__law_line_text p)) hp
end

end Lk07

namespace Lk07
open PySem L2 PyProof.Rows DL
section
variable {K : PySem.W.Frag} {C p : Addr}
structure LineF (K : PySem.W.Frag) (C : Addr) : Prop where
  s : Fld K C "slope"
  h : Fld K C "height"
structure LineT (K : PySem.W.Frag) (C : Addr) : Prop where
  f : LineF K C
  i : IsC K C
  k1 : PySem.W.kitOne K (.ref C) (.ref C) = some true
  k2 : PySem.W.kitOne K (.type "int") (.ref C) = some false
  k3 : PySem.W.kitOne K (.type "tuple") (.ref C) = some false
  n1 : PySem.W.notFirst K C (.ref C) = true
  n2 : PySem.W.notFirst K C (.type "tuple") = true
theorem hl_value_at : ∀ ds n R Rx, sp_value_at C ds n R Rx → ds.length = 2 := by
  rintro ds n R Rx ⟨a, b, x, rfl, _⟩
  rfl
theorem hp_value_at (F : LineF K C) : ∀ ds n R Rx, sp_value_at C ds n R Rx → t_value_at K (fnEnds R) (startD ["line", "x"] ds) n := by
  rintro ds n R Rx ⟨a, b, x, rfl, h1, h2⟩
  exact ⟨F.s, h1, F.h, h2⟩
theorem hl_init : ∀ ds n R Rx, sp_Line___init__ ds n R Rx → ds.length = 2 := by
  rintro ds n R Rx ⟨x, y, rfl, _⟩
  rfl
theorem hp_init (F : LineF K C) : ∀ ds n R Rx, sp_Line___init__ ds n R Rx → t_Line___init__ K (inEnds C R) (.nw C [] [] :: startD ["slope", "height"] ds) n := by
  rintro ds n R Rx ⟨x, y, rfl, h⟩
  refine ⟨⟨F.s, by decide, by simp⟩, ⟨F.h, by decide, by decide +kernel⟩, ?_⟩
  exact ⟨rfl, h⟩
theorem hl_call : ∀ ds n R Rx, sp_Line___call__ C ds n R Rx → ds.length = 2 := hl_value_at
theorem hp_call : ∀ ds n R Rx, sp_Line___call__ C ds n R Rx → t_Line___call__ K C (fnEnds R) (startD ["self", "x"] ds) n := by
  rintro ds n R Rx ⟨a, b, x, rfl, h1, h2⟩
  exact ⟨a, b, x, rfl, h1, h2⟩
theorem hl_Line___eq__ : ∀ ds n R Rx, sp_Line___eq__ C ds n R Rx → ds.length = 2 := by
  rintro ds n R Rx ⟨a, b, y, rfl, _⟩
  rfl
theorem hp_Line___eq__ (T : LineT K C) : ∀ ds n R Rx, sp_Line___eq__ C ds n R Rx → t_Line___eq__ K C (fnEnds R) (startD ["self", "other"] ds) n := by
  rintro ds n R Rx ⟨a, b, y, rfl, h⟩
  rcases h with ⟨c, d, rfl, h⟩ | ⟨l, rfl, h⟩
  · refine ⟨.ref C, .ref C, true, ⟨rfl, rfl, T.i, T.k1⟩, T.f.s, T.f.s, if_eqI (fun e => ⟨T.f.h, T.f.h, ⟨pl_int, pl_int⟩, ?_⟩) (fun e => ?_)⟩
    · rw [decide_eq_true e, Bool.true_and, ← dq_int] at h
      exact h
    · rw [decide_eq_false e, Bool.false_and] at h
      exact h
  · exact ⟨.type "tuple", .ref C, false, ⟨rfl, rfl, trivial, T.k3⟩, h⟩
theorem hl_line_of : ∀ ds n R Rx, sp_line_of C ds n R Rx → ds.length = 1 := by
  rintro ds n R Rx ⟨y, rfl, _⟩
  rfl
theorem hp_line_of (T : LineT K C) : ∀ ds n R Rx, sp_line_of C ds n R Rx → t_line_of K C (fnEnds R) (startD ["value"] ds) n := by
  rintro ds n R Rx ⟨y, rfl, h⟩
  cases y with
  | l a b =>
    refine ⟨.ref C, .ref C, true, ⟨rfl, rfl, T.i, T.k1⟩, ?_⟩
    exact h
  | i k => exact ⟨.type "int", .ref C, false, ⟨rfl, rfl, trivial, T.k2⟩, _, _, rfl, h⟩
theorem hl_Line___add__ : ∀ ds n R Rx, sp_Line___add__ C ds n R Rx → ds.length = 2 := by
  rintro ds n R Rx ⟨a, b, y, rfl, _⟩
  rfl
theorem hp_Line___add__ (T : LineT K C) : ∀ ds n R Rx, sp_Line___add__ C ds n R Rx → t_Line___add__ K C (fnEnds R) (startD ["self", "other", "more"] ds) n := by
  rintro ds n R Rx ⟨a, b, y, rfl, h⟩
  refine ⟨y, rfl, ?_⟩
  exact ⟨T.f.s, T.f.s, T.f.h, T.f.h, _, _, rfl, h⟩
theorem hl_Line___radd__ : ∀ ds n R Rx, sp_Line___radd__ C ds n R Rx → ds.length = 2 := by
  rintro ds n R Rx ⟨a, b, y, rfl, _⟩
  rfl
theorem hp_Line___radd__ : ∀ ds n R Rx, sp_Line___radd__ C ds n R Rx → t_Line___radd__ K C (fnEnds R) (startD ["self", "other"] ds) n := by
  rintro ds n R Rx ⟨a, b, k, rfl, h⟩
  exact ⟨rfl, Or.inr trivial, a, b, .i k, rfl, h⟩
theorem hl_Line___sub__ : ∀ ds n R Rx, sp_Line___sub__ C ds n R Rx → ds.length = 2 := by
  rintro ds n R Rx ⟨a, b, y, rfl, _⟩
  rfl
theorem hp_Line___sub__ (T : LineT K C) : ∀ ds n R Rx, sp_Line___sub__ C ds n R Rx → t_Line___sub__ K C (fnEnds R) (startD ["self", "other", "less"] ds) n := by
  rintro ds n R Rx ⟨a, b, y, rfl, h⟩
  refine ⟨y, rfl, ?_⟩
  exact ⟨T.f.s, T.f.s, T.f.h, T.f.h, _, _, rfl, h⟩
theorem hl_Line___neg__ : ∀ ds n R Rx, sp_Line___neg__ C ds n R Rx → ds.length = 1 := by
  rintro ds n R Rx ⟨a, b, rfl, _⟩
  rfl
theorem hp_Line___neg__ (F : LineF K C) : ∀ ds n R Rx, sp_Line___neg__ C ds n R Rx → t_Line___neg__ K C (fnEnds R) (startD ["self"] ds) n := by
  rintro ds n R Rx ⟨a, b, rfl, h⟩
  exact ⟨F.s, F.h, _, _, rfl, h⟩
theorem hl_Line___rsub__ : ∀ ds n R Rx, sp_Line___rsub__ C ds n R Rx → ds.length = 2 := by
  rintro ds n R Rx ⟨a, b, y, rfl, _⟩
  rfl
theorem hp_Line___rsub__ : ∀ ds n R Rx, sp_Line___rsub__ C ds n R Rx → t_Line___rsub__ K C (fnEnds R) (startD ["self", "other"] ds) n := by
  rintro ds n R Rx ⟨a, b, k, rfl, h⟩
  exact ⟨rfl, a, b, rfl, rfl, Or.inr trivial, -a, -b, .i k, rfl, h⟩
theorem hl_Line___mul__ : ∀ ds n R Rx, sp_Line___mul__ C ds n R Rx → ds.length = 2 := by
  rintro ds n R Rx ⟨a, b, y, rfl, _⟩
  rfl
theorem hp_Line___mul__ (F : LineF K C) : ∀ ds n R Rx, sp_Line___mul__ C ds n R Rx → t_Line___mul__ K C (fnEnds R) (startD ["self", "factor"] ds) n := by
  rintro ds n R Rx ⟨a, b, k, rfl, h1, h2, h⟩
  exact ⟨F.s, h1, F.h, h2, _, _, rfl, h⟩
theorem hl_Line___rmul__ : ∀ ds n R Rx, sp_Line___rmul__ C ds n R Rx → ds.length = 2 := hl_Line___mul__
theorem hp_Line___rmul__ : ∀ ds n R Rx, sp_Line___rmul__ C ds n R Rx → t_Line___rmul__ K C (fnEnds R) (startD ["self", "factor"] ds) n := by
  rintro ds n R Rx ⟨a, b, k, rfl, h1, h2, h⟩
  exact ⟨rfl, Or.inr trivial, a, b, k, rfl, h1, h2, h⟩
theorem hl_Line_moved : ∀ ds n R Rx, sp_Line_moved C ds n R Rx → ds.length = 2 := by
  rintro ds n R Rx ⟨a, b, y, rfl, _⟩
  rfl
theorem hp_Line_moved (F : LineF K C) : ∀ ds n R Rx, sp_Line_moved C ds n R Rx → t_Line_moved K C (fnEnds R) (startD ["self", "by"] ds) n := by
  rintro ds n R Rx ⟨a, b, k, rfl, h1, h⟩
  exact ⟨F.s, F.h, F.s, h1, _, _, rfl, h⟩
theorem hl_Line_mirrored : ∀ ds n R Rx, sp_Line_mirrored C ds n R Rx → ds.length = 2 := by
  rintro ds n R Rx ⟨a, b, y, rfl, _⟩
  rfl
theorem hp_Line_mirrored (F : LineF K C) : ∀ ds n R Rx, sp_Line_mirrored C ds n R Rx → t_Line_mirrored K C (fnEnds R) (startD ["self", "last"] ds) n := by
  rintro ds n R Rx ⟨a, b, k, rfl, h1, h⟩
  exact ⟨F.s, F.h, F.s, h1, _, _, rfl, h⟩
theorem hl_Line_text : ∀ ds n R Rx, sp_Line_text C ds n R Rx → ds.length = 1 := by
  rintro ds n R Rx ⟨a, b, rfl, _⟩
  rfl
theorem hd_len {a : Int} (h : Bd 1000 a) : (hdT a).length ≤ 2000 := by
  unfold hdT
  split
  · decide
  · split
    · decide
    · rw [slen_app]
      have h1 := len_int (log_of h (by decide) (by decide))
      have h2 : (" x" : Str).length = 2 := by decide
      omega
theorem szT {n : Nat} (h : n ≤ 5000) : n ≤ sizeLine := Nat.le_trans h (by decide)
theorem sl0 {x : Str} (h : x.length ≤ 5000) : x.length ≤ sizeLine := Nat.le_trans h (by decide)
theorem hd_get {a : Int} : (getD (Sum.inl a) [Sum.inl 1, Sum.inl (-1)] [.str "x", .str "-x"]).getD (.str ((Str.empty ++ (toString a : Str)) ++ (" x" : Str))) = .str (hdT a) := by
  unfold hdT
  by_cases h1 : a = 1
  · subst h1; rfl
  · by_cases h2 : a = -1
    · subst h2; rfl
    · have e1 : getD (Sum.inl a) [Sum.inl 1, Sum.inl (-1)] [.str "x", .str "-x"] = none := by
        unfold getD
        rw [if_neg (by intro z; exact h1 (Sum.inl.inj z).symm)]
        unfold getD
        rw [if_neg (by intro z; exact h2 (Sum.inl.inj z).symm)]
        rfl
      rw [e1, if_neg h1, if_neg h2, empty_app]
      rfl
theorem hp_Line_text (F : LineF K C) : ∀ ds n R Rx, sp_Line_text C ds n R Rx → t_Line_text K (fnEnds R) (startD ["self", "head"] ds) n := by
  rintro ds n R Rx ⟨a, b, rfl, ha, hb, h⟩
  unfold ltext at h
  have la := log_of ha (by decide) (by decide)
  have lb := log_of hb (by decide) (by decide)
  have n1 := len_int la
  have n2 := len_int lb
  have n3 := len_int (log_of hb.neg (by decide) (by decide))
  have n4 := hd_len ha
  have e2 : (" x" : Str).length = 2 := by decide
  have e3 : (" + " : Str).length = 3 := by decide
  have e4 : (" - " : Str).length = 3 := by decide
  have e0 : Str.empty.length = 0 := by decide
  refine ⟨F.s, if_eqI (fun e => ?_) (fun e => ?_)⟩
  · rw [if_pos e] at h
    exact ⟨F.h, lb, h⟩
  · rw [if_neg e] at h
    refine ⟨rfl, [Sum.inl 1, Sum.inl (-1)], rfl, by decide, by decide, F.s, F.s, la, sl0 (by rw [slen_app]; omega), sl0 (by rw [slen_app, slen_app]; omega), Sum.inl a, rfl, ?_⟩
    rw [hd_get]
    refine ⟨F.h, if_eqI (fun e1 => ?_) (fun e1 => ?_)⟩
    · rw [if_pos e1] at h
      exact h
    · rw [if_neg e1] at h
      refine ⟨F.h, if_d (fun c => ?_) (fun c => ?_)⟩
      · rw [if_pos c] at h
        refine ⟨sl0 (by omega), sl0 (by rw [slen_app]; omega), sl0 (by rw [slen_app, slen_app]; omega), F.h, lb, sl0 (by rw [slen_app, slen_app, slen_app]; omega), ?_⟩
        rw [empty_app]
        exact h
      · rw [if_neg c] at h
        refine ⟨sl0 (by omega), sl0 (by rw [slen_app]; omega), sl0 (by rw [slen_app, slen_app]; omega), F.h, log_of hb.neg (by decide) (by decide), sl0 (by rw [slen_app, slen_app, slen_app]; omega), ?_⟩
        rw [empty_app]
        exact h
theorem hl__law_worth : ∀ ds n R Rx, sp__law_worth ds n R Rx → ds.length = 2 := by
  rintro ds n R Rx ⟨a, b, x, rfl, _⟩
  rfl
theorem hp__law_worth : ∀ ds n R Rx, sp__law_worth ds n R Rx → t__law_worth K (fnEnds R) (startD ["_law_line_here", "_law_x"] ds) n := by
  rintro ds n R Rx ⟨a, b, x, rfl, h1, h⟩
  exact ⟨h1, h⟩
theorem hl__law_line_text : ∀ ds n R Rx, sp__law_line_text ds n R Rx → ds.length = 1 := by
  rintro ds n R Rx ⟨a, b, rfl, _⟩
  rfl
theorem hp__law_line_text : ∀ ds n R Rx, sp__law_line_text ds n R Rx → t__law_line_text K (fnEnds R) (startD ["_law_line_here", "_law_slope", "_law_height", "_law_head"] ds) n := by
  rintro ds n R Rx ⟨a, b, rfl, ha, hb, h⟩
  unfold ltext at h
  have la := log_of ha (by decide) (by decide)
  have lb := log_of hb (by decide) (by decide)
  have n1 := len_int la
  have n2 := len_int lb
  have n3 := len_int (log_of hb.neg (by decide) (by decide))
  have n4 := hd_len ha
  have e2 : (" x" : Str).length = 2 := by decide
  have e3 : (" + " : Str).length = 3 := by decide
  have e4 : (" - " : Str).length = 3 := by decide
  refine ⟨rfl, if_eqI (fun e => ?_) (fun e => ?_)⟩
  · rw [if_pos e] at h
    exact ⟨lb, h⟩
  · rw [if_neg e] at h
    have tail : ∀ x : Str, x = hdT a → (dSeq (dIfS (dTest (dOp (fEq true) (dVar 2) (dC (.int 0)))) (dRet (dVar 3)) dNext)
        (dRet (dOp fAdd (dOp fAdd (dVar 3) (dIf (dTest (dOp fGt (dVar 2) (dC (.int 0)))) (dC (.str " + ")) (dC (.str " - ")))) (dCa fStr (aCons (dCa fAbs (aCons (dVar 2) aNil)) aNil))))) (fnEnds R) [.sh (.tup [.int a, .int b]), .sh (.int a), .sh (.int b), .sh (.str x)] n := by
      rintro x rfl
      refine if_eqI (fun e1 => ?_) (fun e1 => ?_)
      · rw [if_pos e1] at h
        exact h
      · rw [if_neg e1] at h
        refine if_d (fun c => ?_) (fun c => ?_)
        · rw [if_pos c] at h
          have ab : (if b < 0 then -b else b) = b := if_neg (by omega)
          exact ⟨szT (by omega), by rw [ab]; exact lb, by rw [ab]; exact szT (by rw [slen_app]; omega), by rw [ab]; exact h⟩
        · rw [if_neg c] at h
          have ab : (if b < 0 then -b else b) = -b := if_pos (by omega)
          exact ⟨szT (by omega), by rw [ab]; exact log_of hb.neg (by decide) (by decide), by rw [ab]; exact szT (by rw [slen_app]; omega), by rw [ab]; exact h⟩
    refine ⟨la, szT (by omega), if_eqI (fun c1 => ?_) (fun c1 => if_eqI (fun c2 => ?_) (fun c2 => ?_))⟩
    · refine if_eqI (fun _ => tail _ ?_) (fun c => absurd c1 c)
      unfold hdT
      rw [if_pos c1]
    · refine if_eqI (fun c => absurd c c1) (fun _ => tail _ ?_)
      unfold hdT
      rw [if_neg c1, if_pos c2]
    · refine tail _ ?_
      unfold hdT
      rw [if_neg c1, if_neg c2]
theorem pl_pr {k : Nat} {a b : Int} : DL.plain (k + 1) (.tup [.int a, .int b]) = true := by
  show (DL.plain k (.int a) && (DL.plain k (.int b) && true)) = true
  rw [pl_int, pl_int]
  rfl
theorem dq_pr {a b c d : Int} : (deq (.tup [.int a, .int b]) (.tup [.int c, .int d]) == true) = (decide (a = c) && decide (b = d)) := by
  show (((a == c) && ((b == d) && true)) == true) = (decide (a = c) && decide (b = d))
  by_cases h1 : a = c <;> by_cases h2 : b = d <;> simp [h1, h2]
theorem hl__law_is : ∀ ds n R Rx, sp__law_is C ds n R Rx → ds.length = 2 := by
  rintro ds n R Rx ⟨a, b, c, d, rfl, _⟩
  rfl
theorem hp__law_is (T : LineT K C) : ∀ ds n R Rx, sp__law_is C ds n R Rx → t__law_is K C (fnEnds R) (startD ["_law_line_here", "_law_due"] ds) n := by
  rintro ds n R Rx ⟨a, b, c, d, rfl, ⟨rfl, rfl⟩, h⟩
  refine ⟨.ref C, .ref C, true, ⟨rfl, rfl, T.i, T.k1⟩, ?_⟩
  refine ⟨T.f.s, T.f.h, sz (by show 2 ≤ 1000; decide), ⟨pl_pr, pl_pr⟩, ?_⟩
  rw [dq_pr, decide_eq_true rfl, decide_eq_true rfl]
  refine ⟨_, _, rfl, ⟨rfl, .ref C, rfl, T.i, T.n1⟩, a, b, _, rfl, Or.inl ⟨a, b, rfl, ?_⟩⟩
  rw [decide_eq_true rfl, decide_eq_true rfl]
  exact h
end

/-! ### the pen's defs: pick, whole, line, spot -/
section
variable {K : PySem.W.Frag} {C p : Addr}
theorem hl__law_pick : ∀ ds n R Rx, sp__law_pick p ds n R Rx → ds.length = 2 := by
  rintro ds n R Rx ⟨l, rfl, _⟩
  rfl
theorem hp__law_pick : ∀ ds n R Rx, sp__law_pick p ds n R Rx → t__law_pick K p (fnEnds R) (startD ["_law_pen_here", "_law_items"] ds) n := by
  rintro ds n R Rx ⟨l, rfl, ⟨h1, h2, h3⟩, h⟩
  refine ⟨_, rfl, ⟨by omega, bd_small 1000 (by omega) (by decide +kernel), h3⟩, fun v v0 v1 => ?_⟩
  obtain ⟨d, hd, hm⟩ := atI_mem v0 v1
  exact ixo hd (h d hm)
theorem ten30 : (10 : Int) ^ 30 = 1000000000000000000000000000000 := by decide +kernel
theorem ten9 : (10 : Int) ^ 9 = 1000000000 := by decide +kernel
theorem pow9 : (10 : Int) ^ Int.toNat 9 = 1000000000 := by decide
theorem pow30 : (10 : Int) ^ Int.toNat 30 = 1000000000000000000000000000000 := by decide
theorem pow15 : (10 : Int) ^ Int.toNat 15 = 1000000000000000 := by decide
theorem hl__law_whole : ∀ ds n R Rx, sp__law_whole p ds n R Rx → ds.length = 1 := by
  rintro ds n R Rx ⟨rfl, _⟩
  rfl
theorem hp__law_whole : ∀ ds n R Rx, sp__law_whole p ds n R Rx → t__law_whole K p (fnEnds R) (startD ["_law_pen_here", "_law_size"] ds) n := by
  rintro ds n R Rx ⟨rfl, h3, h⟩
  rw [ten30] at h
  refine ⟨cpow (by decide) (by decide) (by decide), cpow (by decide) (by decide) (by decide), sz (by show 5 ≤ 1000; decide), ?_⟩
  refine ⟨_, rfl, ⟨by decide, by decide, by omega⟩, fun d hd => ?_⟩
  obtain ⟨m, rfl, m0, m1⟩ : ∃ m : Int, d = .int m ∧ 0 < m ∧ m ≤ 1000000000000000000000000000000 := by
    simp only [List.mem_cons, List.not_mem_nil, or_false] at hd
    rcases hd with rfl | rfl | rfl | rfl | rfl <;> exact ⟨_, rfl, by decide, by decide⟩
  refine ⟨m, rfl, ⟨m0, bd_small 1000000000000000000000000000000 (by omega) (by decide +kernel), by omega⟩, fun v v0 v1 => ⟨sz (by show 3 ≤ 1000; decide), ?_⟩⟩
  refine ⟨_, rfl, ⟨by decide, by decide, by omega⟩, fun e he => ?_⟩
  have hv : Bd 100 v := bd_small 1000000000000000000000000000000 (by omega) (by decide +kernel)
  simp only [List.mem_cons, List.not_mem_nil, or_false] at he
  rcases he with rfl | rfl | rfl
  · exact ⟨mulok hv (bd_small (k := 2) 1 (by decide) (by decide)) (by decide), h _ (by omega) (by omega)⟩
  · exact ⟨mulok hv (bd_small (k := 2) 1 (by decide) (by decide)) (by decide), h _ (by omega) (by omega)⟩
  · exact ⟨mulok hv (bd_small (k := 2) 1 (by decide) (by decide)) (by decide), h _ (by omega) (by omega)⟩
theorem hl__law_spot : ∀ ds n R Rx, sp__law_spot p ds n R Rx → ds.length = 1 := by
  rintro ds n R Rx ⟨rfl, _⟩
  rfl
theorem hp__law_spot : ∀ ds n R Rx, sp__law_spot p ds n R Rx → t__law_spot K p (fnEnds R) (startD ["_law_pen_here", "_law_way"] ds) n := by
  rintro ds n R Rx ⟨rfl, h3, h⟩
  rw [ten30] at h
  refine ⟨5, rfl, ⟨by decide, bd_small 5 (by decide) (by decide +kernel), by omega⟩, fun v v0 v1 => if_d (fun c => ?_) (fun c => if_eqI (fun c2 => ?_) (fun c2 => if_eqI (fun c3 => ?_) (fun c3 => ?_)))⟩
  · refine ⟨sz (n := 2) (by decide), ?_⟩
    rcases (by omega : v = 0 ∨ v = 1) with rfl | rfl
    · exact ⟨9, rfl, ⟨by decide, bd_small 9 (by decide) (by decide +kernel), by omega⟩, fun u u0 u1 => h u u0 (by omega)⟩
    · exact ⟨60, rfl, ⟨by decide, bd_small 60 (by decide) (by decide +kernel), by omega⟩, fun u u0 u1 => h u u0 (by omega)⟩
  · refine ⟨cpow (by decide) (by decide) (by decide), _, rfl, ⟨by decide, bd_small 2000000000000000000000000000000 (by decide) (by decide +kernel), by omega⟩, fun u u0 u1 => h u u0 ?_⟩
    rw [pow30] at u1
    omega
  · refine ⟨cpow (by decide) (by decide) (by decide), 9, rfl, ⟨by decide, bd_small 9 (by decide) (by decide +kernel), by omega⟩, fun u u0 u1 => h _ ?_ ?_⟩
    · rw [pow30]; omega
    · rw [pow30]; omega
  · refine ⟨cpow (by decide) (by decide) (by decide), 99, rfl, ⟨by decide, bd_small 99 (by decide) (by decide +kernel), by omega⟩, fun u u0 u1 => h _ ?_ ?_⟩
    · rw [pow15]; omega
    · rw [pow15]; omega
end

section
variable {K : PySem.W.Frag} {C p : Addr}
theorem hl__law_line : ∀ ds n R Rx, sp__law_line p ds n R Rx → ds.length = 1 := by
  rintro ds n R Rx ⟨rfl, _⟩
  rfl
theorem hp__law_line : ∀ ds n R Rx, sp__law_line p ds n R Rx → t__law_line K p (fnEnds R) (startD ["_law_pen_here", "_law_slope"] ds) n := by
  rintro ds n R Rx ⟨rfl, h3, h⟩
  rw [ten9, ten30] at h
  refine ⟨cpow (by decide) (by decide) (by decide), _, rfl, ⟨by decide, bd_small 2000000000 (by decide) (by decide +kernel), by omega⟩, fun u u0 u1 => ?_⟩
  refine ⟨cpow (by decide) (by decide) (by decide), _, rfl, ⟨by decide, bd_small 2000000000 (by decide) (by decide +kernel), by omega⟩, fun v v0 v1 => ?_⟩
  refine ⟨sz (by show 7 ≤ 1000; decide), _, rfl, ⟨by simp, by simp, by omega⟩, fun d hd => ?_⟩
  rw [pow9] at u1 v1
  obtain ⟨m, rfl, m0, m1⟩ : ∃ m : Int, d = .int m ∧ -1000000000 ≤ m ∧ m ≤ 1000000000 := by
    simp only [List.mem_cons, List.not_mem_nil, or_false] at hd
    rcases hd with rfl | rfl | rfl | rfl | rfl | rfl | rfl <;> exact ⟨_, rfl, by omega, by omega⟩
  refine ⟨rfl, by omega, fun w w0 w1 => ⟨sz (by show 2 ≤ 1000; decide), ?_⟩⟩
  rw [ten30] at w0 w1
  exact h m w m0 m1 w0 w1
end

end Lk07

namespace Lk07
open PySem L2 PyProof.Rows DL
section
variable {K : PySem.W.Frag} {C p : Addr}
theorem if_same {i j : Int} {A B : Prop} (e : i = j) (h : B) : (DL.plain 30 (.int i) = true ∧ DL.plain 30 (.int j) = true) ∧ if (deq (.int i) (.int j) == false) = true then A else B := if_neI (fun c => absurd e c) fun _ => h
theorem if_sameB {x y : Bool} {A B : Prop} (e : x = y) (h : B) : (DL.plain 30 (.bl x) = true ∧ DL.plain 30 (.bl y) = true) ∧ if (deq (.bl x) (.bl y) == false) = true then A else B := by
  subst e
  refine ⟨⟨rfl, rfl⟩, ?_⟩
  rw [show (deq (.bl x) (.bl x) == false) = false from by cases x <;> rfl]
  exact if_ff h
theorem if_sameS {x : Str} {A B : Prop} (o : PyData.strOk x = true) (h : B) : (DL.plain 30 (.str x) = true ∧ DL.plain 30 (.str x) = true) ∧ if (deq (.str x) (.str x) == false) = true then A else B := by
  refine ⟨⟨pl_str o, pl_str o⟩, ?_⟩
  rw [dn_self]
  exact if_ff h
theorem s2 : (2 : Nat) ≤ sizeLine := sz (by decide)
theorem ok_hd {a : Int} : PyData.strOk (hdT a) = true := by
  unfold hdT
  split
  · exact ok_ofString _
  · split
    · exact ok_ofString _
    · exact ok_app (ok_int _) (ok_ofString _)
theorem ok_ltext {a b : Int} : PyData.strOk (ltext a b) = true := by
  unfold ltext
  split
  · exact ok_int _
  · split
    · exact ok_hd
    · split
      · exact ok_app (ok_app ok_hd (ok_ofString _)) (ok_int _)
      · exact ok_app (ok_app ok_hd (ok_ofString _)) (ok_int _)
theorem dn_pr {a b c d : Int} : (deq (.tup [.int a, .int b]) (.tup [.int c, .int d]) == false) = !(decide (a = c) && decide (b = d)) := by
  rw [← dq_pr]
  generalize deq (.tup [.int a, .int b]) (.tup [.int c, .int d]) = z
  cases z <;> rfl
theorem if_neO {P Q A B : Prop} [Decidable P] [Decidable Q] (h1 : P) (h2 : Q) (h : B) : if (!(decide P && decide Q)) = true then A else B := by
  rw [decide_eq_true h1, decide_eq_true h2]
  exact if_ff h
theorem no_moved : ¬ ("moved" : Str) ∈ (["slope", "height"] : List Str) := by decide +kernel
theorem no_mirr : ¬ ("mirrored" : Str) ∈ (["slope", "height"] : List Str) := by decide +kernel
theorem no_text : ¬ ("text" : Str) ∈ (["slope", "height"] : List Str) := by decide +kernel
theorem last_law : D.bl (deq (.lst [.str (ltext 0 0), .str (ltext (-1) (-2)), .str (ltext 1 0), .str (ltext 0 (-7))]) (.lst [.str "0", .str "-x - 2", .str "x", .str "-7"]) == true) = .bl true := by
  have e : (deq (.lst [.str (ltext 0 0), .str (ltext (-1) (-2)), .str (ltext 1 0), .str (ltext 0 (-7))]) (.lst [.str "0", .str "-x - 2", .str "x", .str "-7"]) == true) = true := by decide +kernel
  rw [e]
theorem hp_law (T : LineT K C) : ∀ p ns, ns.length ≤ 63 → t_law K C p lawEnds (lawEnv ["_law_turn", "_law_a", "_law_b", "_law_n", "_law_one", "_law_two", "_law_x", "_law_by"] ns p) 0 := by
  intro p ns hns
  have hlim := lim
  have hk : ∃ j : Int, (if (ns.length : Int) < 3 then (ns.length : Int) else 3) = j ∧ 0 ≤ j ∧ j ≤ 3 := ⟨_, rfl, by split <;> omega, by split <;> omega⟩
  obtain ⟨j, hj, j0, j1⟩ := hk
  refine ⟨⟨by omega, by omega⟩, ?_⟩
  refine forL_ind (fun rest env n' => ∃ (e2 e3 e4 e5 e6 e7 e8 e9 : Sl), rest.length ≤ 6 ∧ n' + 100 * rest.length ≤ 700 ∧ env = [.sh (.scr ns), .sh (.ref p), e2, e3, e4, e5, e6, e7, e8, e9]) ?_ ?_ _ _ _ ⟨.un, .un, .un, .un, .un, .un, .un, .un, ?_, ?_, rfl⟩
  · rintro dz rest env n' ⟨e2, e3, e4, e5, e6, e7, e8, e9, hr, hn, rfl⟩ ih
    simp only [List.length_cons] at hr hn
    refine ⟨rfl, by omega, fun a b a0 a1 b0 b1 => ⟨rfl, by omega, fun c d c0 c1 d0 d1 => ⟨rfl, by omega, fun m m0 m1 => ?_⟩⟩⟩
    rw [ten9] at a0 a1 c0 c1
    rw [ten30] at b0 b1 d0 d1 m0 m1
    have ha : Bd 40 a := bd_small 1000000000 (by omega) (by decide +kernel)
    have hc : Bd 40 c := bd_small 1000000000 (by omega) (by decide +kernel)
    have hb : Bd 110 b := bd_small 1000000000000000000000000000000 (by omega) (by decide +kernel)
    have hd : Bd 110 d := bd_small 1000000000000000000000000000000 (by omega) (by decide +kernel)
    have hm : Bd 110 m := bd_small 1000000000000000000000000000000 (by omega) (by decide +kernel)
    refine ⟨_, _, rfl, _, _, rfl, ?_⟩
    refine ⟨rfl, Or.inl rfl, a, b, .l c d, rfl, s2, _, _, _, _, rfl, ⟨rfl, rfl⟩, rfl, Or.inl rfl, a, b, .l c d, rfl, s2, _, _, _, _, rfl, ⟨rfl, rfl⟩, ?_⟩
    refine ⟨rfl, Or.inr trivial, a, b, .i m, rfl, s2, _, _, _, _, rfl, ⟨Int.add_zero _, rfl⟩, ⟨trivial, rfl⟩, a, b, m, rfl, s2, _, _, _, _, rfl, ⟨Int.add_zero _, rfl⟩, ?_⟩
    refine ⟨rfl, Or.inr trivial, a, b, .i m, rfl, s2, _, _, _, _, rfl, ⟨Int.sub_zero _, rfl⟩, ⟨trivial, rfl⟩, a, b, m, rfl, s2, _, _, _, _, rfl, ⟨Int.add_zero _, by omega⟩, ?_⟩
    have m1 := mulok ha hm (by decide)
    have m2 := mulok hb hm (by decide)
    refine ⟨rfl, Or.inr trivial, a, b, m, rfl, m1, m2, m1, m2, s2, _, _, _, _, rfl, ⟨rfl, rfl⟩, ⟨trivial, rfl⟩, a, b, m, rfl, m1, m2, m1, m2, s2, _, _, _, _, rfl, ⟨rfl, rfl⟩, ?_⟩
    refine ⟨rfl, a, b, rfl, s2, _, _, _, _, rfl, ⟨rfl, rfl⟩, ?_⟩
    refine ⟨⟨rfl, .ref C, rfl, T.i, T.n1⟩, a, b, _, rfl, Or.inl ⟨c, d, rfl, ⟨pl_pr, pl_pr⟩, if_sameB dq_pr.symm ?_⟩⟩
    refine ⟨⟨rfl, .ref C, rfl, T.i, T.n1⟩, a, b, _, rfl, Or.inl ⟨c, d, rfl, ⟨pl_pr, pl_pr⟩, if_sameB dn_pr.symm ?_⟩⟩
    refine ⟨⟨rfl, .type "tuple", rfl, trivial, T.n2⟩, a, b, _, rfl, Or.inr ⟨_, rfl, ?_⟩⟩
    refine ⟨rfl, by omega, fun w w0 w1 => ⟨rfl, by omega, fun s s0 s1 => ⟨sz (n := 5) (by decide), ?_⟩⟩⟩
    rw [ten30] at w0 w1 s1
    refine forL_ind (fun rest2 env n2 => ∃ (e8 e9 : Sl), rest2.length ≤ 5 ∧ n2 + 3 * rest2.length ≤ n' + 40 ∧ (∀ z, z ∈ rest2 → ∃ x, z = .int x ∧ Bd 110 x) ∧
      env = [.sh (.scr ns), .sh (.ref p), .sh dz, .sh (.tup [.int a, .int b]), .sh (.tup [.int c, .int d]), .sh (.int m), .sh (line C a b), .sh (line C c d), e8, e9]) ?_ ?_ _ _ _ ⟨_, _, Nat.le_refl 5, by simp only [List.length_cons, List.length_nil]; omega, ?_, rfl⟩
    · rintro z rest2 env n2 ⟨e8, e9, hr2, hn2, hz, rfl⟩ ih2
      simp only [List.length_cons] at hr2 hn2
      obtain ⟨x, rfl, hx⟩ := hz z List.mem_cons_self
      refine ⟨rfl, by omega, fun y y0 y1 => ?_⟩
      rw [ten30] at y0 y1
      have hy : Bd 110 y := bd_small 1000000000000000000000000000000 (by omega) (by decide +kernel)
      have ax := mulok ha hx (by decide)
      have ay := mulok ha hy (by decide)
      have hxy : Bd 111 (x - y) := hx.sub hy
      have hyx : Bd 111 (y - x) := hy.sub hx
      refine ⟨rfl, a, b, x, rfl, ax, a, b, x, rfl, ax, if_same rfl ?_⟩
      refine ⟨⟨rfl, no_moved⟩, a, b, y, rfl, ay, rfl, a, _, x, rfl, ax, a, b, _, rfl, mulok ha hxy (by decide), if_same (by rw [Int.mul_sub]; omega) ?_⟩
      refine ⟨⟨rfl, no_mirr⟩, a, b, y, rfl, ay, rfl, -a, _, x, rfl, mulok ha.neg hx (by decide), a, b, _, rfl, mulok ha hyx (by decide), if_same (by rw [Int.mul_sub, Int.neg_mul]; omega) ?_⟩
      refine ⟨rfl, Or.inl rfl, a, b, .l c d, rfl, rfl, _, _, x, rfl, mulok (Bd.sub ha hc) hx (by decide), rfl, a, b, x, rfl, ax, rfl, c, d, x, rfl, mulok hc hx (by decide), if_same (by show (a - c) * x + (b - d) = _; rw [Int.sub_mul]; omega) ?_⟩
      refine ⟨⟨rfl, no_moved⟩, a, b, y, rfl, ay, ⟨rfl, no_moved⟩, a, _, -y, rfl, mulok ha hy.neg (by decide), ⟨rfl, .ref C, rfl, T.i, T.n1⟩, a, _, _, rfl, Or.inl ⟨a, b, rfl, if_neO rfl (by rw [Int.mul_neg]; omega) ?_⟩⟩
      refine ⟨⟨rfl, no_mirr⟩, a, b, y, rfl, ay, ⟨rfl, no_mirr⟩, -a, _, y, rfl, mulok ha.neg hy (by decide), ⟨rfl, .ref C, rfl, T.i, T.n1⟩, _, _, _, rfl, Or.inl ⟨a, b, rfl, if_neO (by omega) (by rw [Int.neg_mul]; omega) ?_⟩⟩
      exact ih2 _ _ ⟨_, _, by omega, by omega, fun z hz' => hz z (List.mem_cons_of_mem _ hz'), rfl⟩
    · rintro env n2 ⟨e8, e9, hr2, hn2, hz, rfl⟩
      have ha' := ha.mono (b := 1000) (by decide)
      have hb' := hb.mono (b := 1000) (by decide)
      have hc' := hc.mono (b := 1000) (by decide)
      have hd' := hd.mono (b := 1000) (by decide)
      refine ⟨⟨rfl, no_text⟩, a, b, rfl, ha', hb', a, b, rfl, ha', hb', if_sameS ok_ltext ?_⟩
      refine ⟨⟨rfl, no_text⟩, c, d, rfl, hc', hd', c, d, rfl, hc', hd', if_sameS ok_ltext ?_⟩
      refine ⟨a, b, a, b, rfl, ⟨rfl, rfl⟩, c, d, c, d, rfl, ⟨rfl, rfl⟩, ?_⟩
      exact ih _ _ ⟨_, _, _, _, _, _, _, _, by omega, by simp only [List.length_nil] at hn2; omega, rfl⟩
    · intro z hz
      simp only [List.mem_cons, List.not_mem_nil, or_false] at hz
      rcases hz with rfl | rfl | rfl | rfl | rfl <;> exact ⟨_, rfl, bd_small 1000000000000000000000000000000 (by omega) (by decide +kernel)⟩
  · rintro env n' ⟨e2, e3, e4, e5, e6, e7, e8, e9, hr, hn, rfl⟩
    have b0 : Bd 1000 0 := bd_small 0 (by decide) (by decide +kernel)
    have b1 : Bd 1000 1 := bd_small 1 (by decide) (by decide +kernel)
    have b2 : Bd 1000 2 := bd_small 2 (by decide) (by decide +kernel)
    have b7 : Bd 1000 7 := bd_small 7 (by decide) (by decide +kernel)
    refine ⟨_, _, rfl, ⟨rfl, no_text⟩, 0, 0, rfl, b0, b0, _, _, rfl, ⟨rfl, no_text⟩, _, _, rfl, b1.neg, b2.neg, _, _, rfl, ⟨rfl, no_text⟩, _, _, rfl, b1, b0, _, _, rfl, ⟨rfl, no_text⟩, _, _, rfl, b0, b7.neg, sz (n := 4) (by decide), sz (n := 4) (by decide), ⟨by decide +kernel, by decide +kernel⟩, ?_⟩
    exact last_law
  · rw [rngD_length]
    have : (3 + (if (ns.length : Int) < 3 then (ns.length : Int) else 3)).toNat ≤ 6 := by rw [hj]; omega
    exact this
  · rw [rngD_length]
    have : (3 + (if (ns.length : Int) < 3 then (ns.length : Int) else 3)).toNat ≤ 6 := by rw [hj]; omega
    omega
end

end Lk07

namespace Lk07
open PySem L2 PyProof.Rows DL
section
variable {P : Program} {w : World} {K : PySem.W.Frag} {mg : Str → Option Value} {base : Heap}
theorem ok__law_pen {f : Addr} {fd : FuncData} (F : FnP K "_law_pen" "_law_pen" s__law_pen f fd) (bt : Bt mg) : FnOk P w K mg base CX0 1 f fd ["_law_script"] (spPen K) := by
  refine F.ok sc__law_pen (fun vs H Q E h => ?_) (fun cdv A outer s H vs Q E hr h => ?_)
  · obtain ⟨a, ns, rfl, _⟩ := h
    rfl
  · obtain ⟨a, ns, rfl, hS, hn, k⟩ := h
    refine ⟨_, PSs.nox (pss_one (ps_ret (pe_disp (pps_cons pe_str (pe_callTy call_list_of (by rfl) bt.list_ (by decide +kernel) (pa_cons (pe_slice sl_list (pv 0) po_none (po_some pe_int)) pa_nil)) (pps_cons pe_str pe_int (pps_cons pe_str pe_int pps_nil))) rfl rfl (by simp) (by decide)))), ?_⟩
    intro p hp
    refine ⟨.ref a, rfl, _, rfl, a, ns.map V.int, rfl, ?_, ?_⟩
    · exact Same.seq (fun b o e => by rw [upd_ne (ne_of_none e hp)]; exact e) hS
    intro q hq
    have hqp : q ≠ p := by rintro rfl; rw [upd_same] at hq; cases hq
    refine ⟨q, _, rfl, Or.inl (SqL.of upd_same), ?_⟩
    intro r hr'
    have hrp : r ≠ p := by rintro rfl; rw [upd_ne (Ne.symm hqp), upd_same] at hr'; cases hr'
    have hrq : r ≠ q := by rintro rfl; rw [upd_same] at hr'; cases hr'
    refine ⟨by rw [upd_ne (Ne.symm hrp), upd_ne (Ne.symm hqp), upd_same], [(Sum.inr "cells", .ref r), (Sum.inr "begun", .int 0), (Sum.inr "left", .int 0)], rfl, by show 3 ≤ 15; decide, ?_⟩
    have em : mergeK ([] : List (Key × V)) [(Sum.inr "cells", .ref r), (Sum.inr "begun", .int 0), (Sum.inr "left", .int 0)] = penKvs r 0 0 := by
      have k1' : ¬ (("begun" : Str) = "left") := k3
      have e1 : putK ([] : List (Key × V)) (Sum.inr "cells") (V.ref r) = ([(Sum.inr "cells", V.ref r)] : List (Key × V)) := by unfold putK; rw [if_neg (by simp)]; rfl
      have e2 : putK ([(Sum.inr "cells", V.ref r)] : List (Key × V)) (Sum.inr "begun") (V.int 0) = ([(Sum.inr "cells", V.ref r), (Sum.inr "begun", V.int 0)] : List (Key × V)) := by
        unfold putK; rw [if_neg (by simpa using key_ne k1)]; rfl
      have e3 : putK ([(Sum.inr "cells", V.ref r), (Sum.inr "begun", V.int 0)] : List (Key × V)) (Sum.inr "left") (V.int 0) = penKvs r 0 0 := by
        unfold putK; rw [if_neg (by simpa using ⟨k2, k3⟩)]; rfl
      unfold mergeK
      rw [List.foldl_cons, List.foldl_cons, List.foldl_cons, List.foldl_nil, e1, e2, e3]
    rw [em]
    refine k p r _ hp (fun b o e => ?_) upd_same ?_
    · have b1 : b ≠ p := ne_of_none e hp
      have b2 : b ≠ q := by rintro rfl; rw [upd_ne b1, e] at hq; cases hq
      have b3 : b ≠ r := by rintro rfl; rw [upd_ne b2, upd_ne b1, e] at hr'; cases hr'
      rw [upd_ne b1, upd_ne b3, upd_ne b2, upd_ne b1]; exact e
    · rw [upd_ne hrp, upd_same, cut63 hn]
theorem ok__law_draw {p : Addr} {f : Addr} {fd : FuncData} (F : FnP K "_law_draw" "_law_draw" s__law_draw f fd) (bt : Bt mg) : FnOk P w K mg base CX0 1 f fd ["_law_pen_here", "_law_many"] (liftSp K (some p) (sp__law_draw p)) := by
  refine F.ok sc__law_draw (fun vs H Q E h => ?_) (fun cdv A outer s H vs Q E hr h => ?_)
  · obtain ⟨Hs, n, ds, R, Rx, _, _, r, ⟨m, rfl, _⟩, _⟩ := h
    rw [← r.length]
    rfl
  · obtain ⟨Hs, n, ds, R, Rx, sub, pen, r, ⟨m, rfl, ⟨m0, mb, nl⟩, hR⟩, kk, _⟩ := h
    obtain ⟨v1, v2, rfl, r1, r2⟩ := reps2 r
    have r1' : v1 = .ref p := r1
    have r2' : v2 = .int m := r2
    subst r1' r2'
    obtain ⟨ca, ns, k, l, hp, hsp, hca, hns, hk, hl⟩ := pen p rfl
    have hu := hu_of hr
    have hca' : H ca = some (.lst (ns.map V.int)) := sub _ _ hca
    have nca : ca ≠ p := by rintro rfl; rw [hsp] at hca; cases hca
    have LM : LIM = 1152921504606846976 := by decide
    rw [LM] at nl
    refine ⟨_, PSs.nox
      (pss_cons (ps_if (pt_cmpR op_gt (pe_dget hu (pv 0) pe_str (fun _ _ => rfl)) pe_int (nomark _))
        (pss_cons (ps_set (i := 2) sc__law_draw.nd rfl (Or.inl rfl) (pe_op op_mod (pe_callTy call_int1 (by rfl) bt.int_ (by decide +kernel) (pa_cons (pe_dget hu (pv 0) pe_str (fun _ _ => rfl)) pa_nil)) (pv 1)))
        (pss_cons (ps_dput hu (pv 0) pe_str (pe_op op_fdivW (pe_dget hu (pv 0) pe_str (fun _ _ => rfl)) (pv 1)) rfl)
        (pss_one (ps_ret (pv 2))))) pss_nil)
      (pss_cons (ps_par rfl sc__law_draw.nd rfl rfl (i := 3) (j := 4) (by decide) rfl rfl (pa_cons (pe_dget hu (pv 0) pe_str (fun _ _ => rfl)) (pa_cons (pe_callB call_len (by rfl) bt.len_ PySem.boot_len (pa_cons (pe_dget hu (pv 0) pe_str (fun _ _ => rfl)) pa_nil)) pa_nil)) rfl)
      (pss_cons (ps_dput hu (pv 0) pe_str (pe_op op_add (pv 3) pe_int) rfl)
      (pss_cons (ps_set (i := 5) sc__law_draw.nd rfl (Or.inl rfl) (pe_ifExp (pt_cmpR op_gt (pv 4) pe_int (nomark _))
          (pe_ix ix_list (pe_dget hu (pv 0) pe_str (fun _ _ => rfl)) (pe_op op_mod (pe_callTy call_int1 (by rfl) bt.int_ (by decide +kernel) (pa_cons (pv 3) pa_nil)) (pv 4)) (fun _ _ => rfl))
          (pe_op op_add (pe_op op_mulO pe_int (pv 3)) pe_int)))
      (pss_cons (ps_if (PW.pt (pw_and (pt_cmpR op_lt (pv 3) (pv 4) (nomark _)) (pw_and1 (pt_cmpR op_ge (pe_callB call_abs (by rfl) bt.abs_ (by decide +kernel) (pa_cons (pv 5) pa_nil)) (pe_op op_pow pe_int pe_int) (nomark _)))))
        (pss_cons (ps_dput hu (pv 0) pe_str (pe_op op_fdivW (pe_op op_sub (pe_callB call_abs (by rfl) bt.abs_ (by decide +kernel) (pa_cons (pv 5) pa_nil)) (pe_op op_pow pe_int pe_int)) (pv 1)) rfl)
        (pss_one (ps_ret (pe_op op_mod (pe_callTy call_int1 (by rfl) bt.int_ (by decide +kernel) (pa_cons (pe_op op_sub (pe_callB call_abs (by rfl) bt.abs_ (by decide +kernel) (pa_cons (pv 5) pa_nil)) (pe_op op_pow pe_int pe_int)) pa_nil)) (pv 1))))) pss_nil)
      (pss_cons (ps_set (i := 6) sc__law_draw.nd rfl (Or.inl rfl) (pe_op op_mod (pe_callTy call_int1 (by rfl) bt.int_ (by decide +kernel) (pa_cons
          (pe_op op_add (pe_op op_add (pe_op op_add (pe_op op_mulO (pe_op op_mod (pe_callTy call_int1 (by rfl) bt.int_ (by decide +kernel) (pa_cons (pv 5) pa_nil)) pe_int) pe_int) (pe_op op_mulO (pe_op op_mulO pe_int (pv 3)) (pv 3))) (pe_op op_mulO pe_int (pv 3))) pe_int) pa_nil)) pe_int))
      (pss_cons (ps_set (i := 6) sc__law_draw.nd rfl (Or.inl rfl) (pe_op op_mod (pe_callTy call_int1 (by rfl) bt.int_ (by decide +kernel) (pa_cons
          (pe_op op_add (pe_op op_add (pe_op op_mulO (pv 6) (pv 6)) (pe_op op_mulO pe_int (pv 6))) (pe_op op_mulO pe_int (pv 3))) pa_nil)) pe_int))
      (pss_one (ps_ret (pe_op op_mod (pe_callTy call_int1 (by rfl) bt.int_ (by decide +kernel) (pa_cons
          (pe_op op_fdivW (pe_op op_mod (pe_callTy call_int1 (by rfl) bt.int_ (by decide +kernel) (pa_cons (pe_op op_mulO (pv 6) (pe_op op_add (pv 6) pe_int)) pa_nil)) pe_int) pe_int) pa_nil)) (pv 1))))))))))), ?_⟩
    -- if pen['left'] > 0
    refine ⟨_, rfl, p, _, rfl, get_left hp, _, _, rfl, rfl, _, rfl, ?_⟩
    refine if_d (fun c1 => ?_) (fun c1 => ?_)
    · -- a digit of what is left
      refine ⟨_, rfl, p, _, rfl, get_left hp, Or.inl ⟨l, rfl, _, rfl, _, _, rfl, rfl, m0, ?_⟩⟩
      refine ⟨_, rfl, p, _, rfl, get_left hp, _, rfl, _, _, rfl, rfl, divok m0 mb (by decide), _, rfl, p, _, rfl, set_left hp, _, rfl, ?_⟩
      have hm := mod_bd (x := l) m0
      exact kk _ (.int (l % m)) (n + 1) Hs _ (pen_gone sub hp hsp hca hns (by omega) (Int.ediv_nonneg hl (by omega))) rfl (hR (l % m) hm.1 hm.2)
    · -- a new cell
      refine ⟨_, rfl, p, _, rfl, get_begun hp, _, rfl, p, _, rfl, get_cells hp, _, _, rfl, Or.inl ⟨_, SqL.of hca', rfl⟩, _, _, rfl, ?_⟩
      refine ⟨_, rfl, _, _, rfl, rfl, _, rfl, p, _, rfl, set_begun hp, ?_⟩
      -- the heap from here on
      have hp1 : upd H p (.dK (penKvs ca ((k : Int) + 1) l)) p = some (.dK (penKvs ca ((k : Int) + 1) l)) := upd_same
      have hca1 : upd H p (.dK (penKvs ca ((k : Int) + 1) l)) ca = some (.lst (ns.map V.int)) := by rw [upd_ne nca]; exact hca'
      have ek : ((k : Int) + 1) = ((k + 1 : Nat) : Int) := by omega
      have fin : ∀ v : Int, 0 ≤ v → v < m → Q (.int v) (upd H p (.dK (penKvs ca ((k : Int) + 1) l))) := fun v v0 v1 => by
        rw [ek]
        exact kk _ (.int v) (n + 1) Hs _ (pen_gone sub hp hsp hca hns (by omega) hl) rfl (hR v v0 v1)
      have fin2 : ∀ (v l' : Int), 0 ≤ v → v < m → 0 ≤ l' → Q (.int v) (upd (upd H p (.dK (penKvs ca ((k : Int) + 1) l))) p (.dK (penKvs ca ((k : Int) + 1) l'))) := fun v l' v0 v1 hl' => by
        rw [upd_upd, ek]
        exact kk _ (.int v) (n + 1) Hs _ (pen_gone sub hp hsp hca hns (by omega) hl') rfl (hR v v0 v1)
      -- the cell
      refine ⟨_, rfl, _, _, rfl, rfl, _, rfl, ?_⟩
      have kb : Bd 61 (k : Int) := bd_small 1152921504606846976 (by omega) (by decide)
      refine if_d (fun c2 => ?_) (fun c2 => ?_)
      · obtain ⟨c, hc⟩ : ∃ c : Int, atI (ns.map V.int) ((k : Int) % (ns.map V.int).length) = some (.int c) := by
          have hz : (0 : Int) < (ns.map V.int).length := c2
          have hm := mod_bd (x := (k : Int)) hz
          unfold atI ixN
          rw [if_pos hm.1, if_pos hm.2]
          have hj : ((k : Int) % (ns.map V.int).length).toNat < ns.length := by
            rw [List.length_map] at hm ⊢
            omega
          exact ⟨ns[((k : Int) % (ns.map V.int).length).toNat], by simp [hj]⟩
        refine ⟨_, rfl, p, _, rfl, get_cells hp1, _, rfl, Or.inl ⟨k, rfl, _, rfl, _, _, rfl, rfl, c2, ca, _, _, _, rfl, rfl, SqL.of hca1, hc, ?_⟩⟩
        clear hc
        revert c
        refine fun c => ?_
        refine ⟨_, rfl, _, rfl, _, _, rfl, rfl, _, rfl, ?_⟩
        refine if_d (fun c3 => ?_) (fun c3 => ?_)
        refine ⟨_, rfl, c, rfl, _, _, rfl, rfl, cpow (by decide) (by decide) (by decide), _, _, rfl, rfl, _, rfl, ?_⟩
        refine if_d (fun c4 => ?_) (fun c4 => ?_)
        · refine ⟨_, rfl, c, rfl, _, _, rfl, rfl, cpow (by decide) (by decide) (by decide), _, _, rfl, rfl, _, rfl, _, _, rfl, rfl, divok m0 mb (by decide), _, rfl, p, _, rfl, set_left hp1, ?_⟩
          refine ⟨_, rfl, c, rfl, _, _, rfl, rfl, cpow (by decide) (by decide) (by decide), _, _, rfl, rfl, Or.inl ⟨_, rfl, _, rfl, _, _, rfl, rfl, m0, ?_⟩⟩
          have hm := mod_bd (x := (if c < 0 then -c else c) - 10 ^ Int.toNat 18) m0
          exact fin2 _ _ hm.1 hm.2 (Int.ediv_nonneg (by omega) (by omega))
        all_goals
          have hA := mod_bd (x := c) (c := 4294966769) (by decide)
          refine ⟨_, rfl, Or.inl ⟨c, rfl, _, _, rfl, rfl, (by show (0 : Int) < 4294966769; decide), _, _, rfl, rfl, mulok (a := 40) (b := 40) (bd_small 4294966769 (by omega) (by decide)) (bd_small 43313 (by decide) (by decide)) (by decide), _, rfl, _, _, rfl, rfl, mul1 (bd_small 31699 (by decide) (by decide)) (by omega) (by omega), _, rfl, _, _, rfl, rfl,
            mulok (Bd.mul (a := 40) (bd_small 31699 (by decide) (by decide)) kb) kb (by decide), _, _, rfl, rfl, _, rfl, _, _, rfl, rfl, mul1 (bd_small 613 (by decide) (by decide)) (by omega) (by omega), _, _, rfl, rfl, _, _, rfl, rfl, Or.inl ⟨_, rfl, _, _, rfl, rfl, (by show (0 : Int) < 4294966813; decide), ?_⟩⟩⟩
          have h1 := mod_bd (x := c % 4294966769 * 43313 + 31699 * (k : Int) * (k : Int) + 613 * (k : Int) + 41) (c := 4294966813) (by decide)
          have b1 : Bd 40 ((c % 4294966769 * 43313 + 31699 * (k : Int) * (k : Int) + 613 * (k : Int) + 41) % 4294966813) := bd_small 4294966813 (by omega) (by decide)
          refine ⟨_, rfl, _, rfl, _, _, rfl, rfl, mulok b1 b1 (by decide), _, rfl, _, _, rfl, rfl, mulok (a := 40) (bd_small 40961 (by decide) (by decide)) b1 (by decide), _, _, rfl, rfl, _, rfl, _, _, rfl, rfl, mul1 (bd_small 17 (by decide) (by decide)) (by omega) (by omega), _, _, rfl, rfl, Or.inl ⟨_, rfl, _, _, rfl, rfl, (by show (0 : Int) < 4294966787; decide), ?_⟩⟩
          have h2 := mod_bd (x := ((c % 4294966769 * 43313 + 31699 * (k : Int) * (k : Int) + 613 * (k : Int) + 41) % 4294966813) * ((c % 4294966769 * 43313 + 31699 * (k : Int) * (k : Int) + 613 * (k : Int) + 41) % 4294966813) + 40961 * ((c % 4294966769 * 43313 + 31699 * (k : Int) * (k : Int) + 613 * (k : Int) + 41) % 4294966813) + 17 * (k : Int)) (c := 4294966787) (by decide)
          have b2 : Bd 40 ((((c % 4294966769 * 43313 + 31699 * (k : Int) * (k : Int) + 613 * (k : Int) + 41) % 4294966813) * ((c % 4294966769 * 43313 + 31699 * (k : Int) * (k : Int) + 613 * (k : Int) + 41) % 4294966813) + 40961 * ((c % 4294966769 * 43313 + 31699 * (k : Int) * (k : Int) + 613 * (k : Int) + 41) % 4294966813) + 17 * (k : Int)) % 4294966787) := bd_small 4294966787 (by omega) (by decide)
          refine ⟨_, rfl, _, rfl, _, _, rfl, rfl, _, _, rfl, rfl, mulok (b := 41) b2 (bd_small 4295066787 (by omega) (by decide)) (by decide), Or.inl ⟨_, rfl, _, _, rfl, rfl, (by show (0 : Int) < 4294966661; decide), _, _, rfl, rfl, divok (b := 40) (by decide) (bd_small 128 (by decide) (by decide)) (by decide), Or.inl ⟨_, rfl, _, rfl, _, _, rfl, rfl, m0, ?_⟩⟩⟩
          have hm := mod_bd (x := ((((c % 4294966769 * 43313 + 31699 * (k : Int) * (k : Int) + 613 * (k : Int) + 41) % 4294966813) * ((c % 4294966769 * 43313 + 31699 * (k : Int) * (k : Int) + 613 * (k : Int) + 41) % 4294966813) + 40961 * ((c % 4294966769 * 43313 + 31699 * (k : Int) * (k : Int) + 613 * (k : Int) + 41) % 4294966813) + 17 * (k : Int)) % 4294966787) * (((((c % 4294966769 * 43313 + 31699 * (k : Int) * (k : Int) + 613 * (k : Int) + 41) % 4294966813) * ((c % 4294966769 * 43313 + 31699 * (k : Int) * (k : Int) + 613 * (k : Int) + 41) % 4294966813) + 40961 * ((c % 4294966769 * 43313 + 31699 * (k : Int) * (k : Int) + 613 * (k : Int) + 41) % 4294966813) + 17 * (k : Int)) % 4294966787) + 60317) % 4294966661 / 128) m0
          exact fin _ hm.1 hm.2
      · refine ⟨_, rfl, _, _, rfl, rfl, mul1 (bd_small 83 (by decide) (by decide)) (by omega) (by omega), _, _, rfl, rfl, ?_⟩
        dsimp only
        generalize 83 * (k : Int) + 29 = c
        refine ⟨_, rfl, _, rfl, _, _, rfl, rfl, _, rfl, ?_⟩
        refine if_d (fun c3 => ?_) (fun c3 => ?_)
        refine ⟨_, rfl, c, rfl, _, _, rfl, rfl, cpow (by decide) (by decide) (by decide), _, _, rfl, rfl, _, rfl, ?_⟩
        refine if_d (fun c4 => ?_) (fun c4 => ?_)
        · refine ⟨_, rfl, c, rfl, _, _, rfl, rfl, cpow (by decide) (by decide) (by decide), _, _, rfl, rfl, _, rfl, _, _, rfl, rfl, divok m0 mb (by decide), _, rfl, p, _, rfl, set_left hp1, ?_⟩
          refine ⟨_, rfl, c, rfl, _, _, rfl, rfl, cpow (by decide) (by decide) (by decide), _, _, rfl, rfl, Or.inl ⟨_, rfl, _, rfl, _, _, rfl, rfl, m0, ?_⟩⟩
          have hm := mod_bd (x := (if c < 0 then -c else c) - 10 ^ Int.toNat 18) m0
          exact fin2 _ _ hm.1 hm.2 (Int.ediv_nonneg (by omega) (by omega))
        all_goals
          have hA := mod_bd (x := c) (c := 4294966769) (by decide)
          refine ⟨_, rfl, Or.inl ⟨c, rfl, _, _, rfl, rfl, (by show (0 : Int) < 4294966769; decide), _, _, rfl, rfl, mulok (a := 40) (b := 40) (bd_small 4294966769 (by omega) (by decide)) (bd_small 43313 (by decide) (by decide)) (by decide), _, rfl, _, _, rfl, rfl, mul1 (bd_small 31699 (by decide) (by decide)) (by omega) (by omega), _, rfl, _, _, rfl, rfl,
            mulok (Bd.mul (a := 40) (bd_small 31699 (by decide) (by decide)) kb) kb (by decide), _, _, rfl, rfl, _, rfl, _, _, rfl, rfl, mul1 (bd_small 613 (by decide) (by decide)) (by omega) (by omega), _, _, rfl, rfl, _, _, rfl, rfl, Or.inl ⟨_, rfl, _, _, rfl, rfl, (by show (0 : Int) < 4294966813; decide), ?_⟩⟩⟩
          have h1 := mod_bd (x := c % 4294966769 * 43313 + 31699 * (k : Int) * (k : Int) + 613 * (k : Int) + 41) (c := 4294966813) (by decide)
          have b1 : Bd 40 ((c % 4294966769 * 43313 + 31699 * (k : Int) * (k : Int) + 613 * (k : Int) + 41) % 4294966813) := bd_small 4294966813 (by omega) (by decide)
          refine ⟨_, rfl, _, rfl, _, _, rfl, rfl, mulok b1 b1 (by decide), _, rfl, _, _, rfl, rfl, mulok (a := 40) (bd_small 40961 (by decide) (by decide)) b1 (by decide), _, _, rfl, rfl, _, rfl, _, _, rfl, rfl, mul1 (bd_small 17 (by decide) (by decide)) (by omega) (by omega), _, _, rfl, rfl, Or.inl ⟨_, rfl, _, _, rfl, rfl, (by show (0 : Int) < 4294966787; decide), ?_⟩⟩
          have h2 := mod_bd (x := ((c % 4294966769 * 43313 + 31699 * (k : Int) * (k : Int) + 613 * (k : Int) + 41) % 4294966813) * ((c % 4294966769 * 43313 + 31699 * (k : Int) * (k : Int) + 613 * (k : Int) + 41) % 4294966813) + 40961 * ((c % 4294966769 * 43313 + 31699 * (k : Int) * (k : Int) + 613 * (k : Int) + 41) % 4294966813) + 17 * (k : Int)) (c := 4294966787) (by decide)
          have b2 : Bd 40 ((((c % 4294966769 * 43313 + 31699 * (k : Int) * (k : Int) + 613 * (k : Int) + 41) % 4294966813) * ((c % 4294966769 * 43313 + 31699 * (k : Int) * (k : Int) + 613 * (k : Int) + 41) % 4294966813) + 40961 * ((c % 4294966769 * 43313 + 31699 * (k : Int) * (k : Int) + 613 * (k : Int) + 41) % 4294966813) + 17 * (k : Int)) % 4294966787) := bd_small 4294966787 (by omega) (by decide)
          refine ⟨_, rfl, _, rfl, _, _, rfl, rfl, _, _, rfl, rfl, mulok (b := 41) b2 (bd_small 4295066787 (by omega) (by decide)) (by decide), Or.inl ⟨_, rfl, _, _, rfl, rfl, (by show (0 : Int) < 4294966661; decide), _, _, rfl, rfl, divok (b := 40) (by decide) (bd_small 128 (by decide) (by decide)) (by decide), Or.inl ⟨_, rfl, _, rfl, _, _, rfl, rfl, m0, ?_⟩⟩⟩
          have hm := mod_bd (x := ((((c % 4294966769 * 43313 + 31699 * (k : Int) * (k : Int) + 613 * (k : Int) + 41) % 4294966813) * ((c % 4294966769 * 43313 + 31699 * (k : Int) * (k : Int) + 613 * (k : Int) + 41) % 4294966813) + 40961 * ((c % 4294966769 * 43313 + 31699 * (k : Int) * (k : Int) + 613 * (k : Int) + 41) % 4294966813) + 17 * (k : Int)) % 4294966787) * (((((c % 4294966769 * 43313 + 31699 * (k : Int) * (k : Int) + 613 * (k : Int) + 41) % 4294966813) * ((c % 4294966769 * 43313 + 31699 * (k : Int) * (k : Int) + 613 * (k : Int) + 41) % 4294966813) + 40961 * ((c % 4294966769 * 43313 + 31699 * (k : Int) * (k : Int) + 613 * (k : Int) + 41) % 4294966813) + 17 * (k : Int)) % 4294966787) + 60317) % 4294966661 / 128) m0
          exact fin _ hm.1 hm.2
end
end Lk07

namespace Lk07
open PySem PySem.Spec PyProof.Rows L2 DL
def d_value_at : He.DefD := ⟨("value_at", none), "value_at", "value_at", defArgs s_value_at, defBody s_value_at, defScope s_value_at, [], []⟩
def d_Line___init__ : He.DefD := ⟨("Line", some "__init__"), "__init__", "Line.__init__", defArgs s_Line___init__, defBody s_Line___init__, defScope s_Line___init__, [], []⟩
def d_Line___call__ : He.DefD := ⟨("Line", some "__call__"), "__call__", "Line.__call__", defArgs s_Line___call__, defBody s_Line___call__, defScope s_Line___call__, [], []⟩
def d_Line___eq__ : He.DefD := ⟨("Line", some "__eq__"), "__eq__", "Line.__eq__", defArgs s_Line___eq__, defBody s_Line___eq__, defScope s_Line___eq__, [], []⟩
def d_line_of : He.DefD := ⟨("line_of", none), "line_of", "line_of", defArgs s_line_of, defBody s_line_of, defScope s_line_of, [], []⟩
def d_Line___add__ : He.DefD := ⟨("Line", some "__add__"), "__add__", "Line.__add__", defArgs s_Line___add__, defBody s_Line___add__, defScope s_Line___add__, [], []⟩
def d_Line___radd__ : He.DefD := ⟨("Line", some "__radd__"), "__radd__", "Line.__radd__", defArgs s_Line___radd__, defBody s_Line___radd__, defScope s_Line___radd__, [], []⟩
def d_Line___sub__ : He.DefD := ⟨("Line", some "__sub__"), "__sub__", "Line.__sub__", defArgs s_Line___sub__, defBody s_Line___sub__, defScope s_Line___sub__, [], []⟩
def d_Line___neg__ : He.DefD := ⟨("Line", some "__neg__"), "__neg__", "Line.__neg__", defArgs s_Line___neg__, defBody s_Line___neg__, defScope s_Line___neg__, [], []⟩
def d_Line___rsub__ : He.DefD := ⟨("Line", some "__rsub__"), "__rsub__", "Line.__rsub__", defArgs s_Line___rsub__, defBody s_Line___rsub__, defScope s_Line___rsub__, [], []⟩
def d_Line___mul__ : He.DefD := ⟨("Line", some "__mul__"), "__mul__", "Line.__mul__", defArgs s_Line___mul__, defBody s_Line___mul__, defScope s_Line___mul__, [], []⟩
def d_Line___rmul__ : He.DefD := ⟨("Line", some "__rmul__"), "__rmul__", "Line.__rmul__", defArgs s_Line___rmul__, defBody s_Line___rmul__, defScope s_Line___rmul__, [], []⟩
def d_Line_moved : He.DefD := ⟨("Line", some "moved"), "moved", "Line.moved", defArgs s_Line_moved, defBody s_Line_moved, defScope s_Line_moved, [], []⟩
def d_Line_mirrored : He.DefD := ⟨("Line", some "mirrored"), "mirrored", "Line.mirrored", defArgs s_Line_mirrored, defBody s_Line_mirrored, defScope s_Line_mirrored, [], []⟩
def d_Line_text : He.DefD := ⟨("Line", some "text"), "text", "Line.text", defArgs s_Line_text, defBody s_Line_text, defScope s_Line_text, [], []⟩
def d__law_pen : He.DefD := ⟨("_law_pen", none), "_law_pen", "_law_pen", defArgs s__law_pen, defBody s__law_pen, defScope s__law_pen, [], []⟩
def d__law_draw : He.DefD := ⟨("_law_draw", none), "_law_draw", "_law_draw", defArgs s__law_draw, defBody s__law_draw, defScope s__law_draw, [], []⟩
def d__law_pick : He.DefD := ⟨("_law_pick", none), "_law_pick", "_law_pick", defArgs s__law_pick, defBody s__law_pick, defScope s__law_pick, [], []⟩
def d__law_spot : He.DefD := ⟨("_law_spot", none), "_law_spot", "_law_spot", defArgs s__law_spot, defBody s__law_spot, defScope s__law_spot, [], []⟩
def d__law_whole : He.DefD := ⟨("_law_whole", none), "_law_whole", "_law_whole", defArgs s__law_whole, defBody s__law_whole, defScope s__law_whole, [], []⟩
def d__law_line : He.DefD := ⟨("_law_line", none), "_law_line", "_law_line", defArgs s__law_line, defBody s__law_line, defScope s__law_line, [], []⟩
def d__law_worth : He.DefD := ⟨("_law_worth", none), "_law_worth", "_law_worth", defArgs s__law_worth, defBody s__law_worth, defScope s__law_worth, [], []⟩
def d__law_line_text : He.DefD := ⟨("_law_line_text", none), "_law_line_text", "_law_line_text", defArgs s__law_line_text, defBody s__law_line_text, defScope s__law_line_text, [], []⟩
def d__law_is : He.DefD := ⟨("_law_is", none), "_law_is", "_law_is", defArgs s__law_is, defBody s__law_is, defScope s__law_is, [], []⟩
def d_law : He.DefD := ⟨("law", none), "law", "law", defArgs s_law, defBody s_law, defScope s_law, [], []⟩
def fn : List He.DefD := [d_value_at, d_Line___init__, d_Line___call__, d_Line___eq__, d_line_of, d_Line___add__, d_Line___radd__, d_Line___sub__, d_Line___neg__, d_Line___rsub__, d_Line___mul__, d_Line___rmul__, d_Line_moved, d_Line_mirrored, d_Line_text, d__law_pen, d__law_draw, d__law_pick, d__law_spot, d__law_whole, d__law_line, d__law_worth, d__law_line_text, d__law_is, d_law]
def fa_ : List He.Fa := [.glo "value_at", .glo "line_of", .glo "_law_pen", .glo "_law_draw", .glo "_law_pick", .glo "_law_spot", .glo "_law_whole", .glo "_law_line", .glo "_law_worth", .glo "_law_line_text", .glo "_law_is", .glo "law", .glo "Line", .free "len", .free "int", .free "abs", .free "min", .free "max", .free "range", .free "isinstance", .free "list", .free "tuple", .free "str", .cls "Line", .noat "Line" "slope", .noat "Line" "height", .mkr "Line", .meth "Line" "__call__", .meth "Line" "__eq__", .meth "Line" "__add__", .meth "Line" "__radd__", .meth "Line" "__sub__", .meth "Line" "__neg__", .meth "Line" "__rsub__", .meth "Line" "__mul__", .meth "Line" "__rmul__", .meth "Line" "moved", .meth "Line" "mirrored", .meth "Line" "text"]
def ex_ (K : PySem.W.Frag) : Bool := isCB K (He.ga K "Line") && (kitB K (.ref (He.ga K "Line")) (.ref (He.ga K "Line")) true && (kitB K (.type "int") (.ref (He.ga K "Line")) false && (kitB K (.type "tuple") (.ref (He.ga K "Line")) false && (PySem.W.notFirst K (He.ga K "Line") (.ref (He.ga K "Line")) && (PySem.W.notFirst K (He.ga K "Line") (.type "tuple") && (opCB K (He.ga K "Line") .Add && (opCB K (He.ga K "Line") .Mult && (opCB K (He.ga K "Line") .Sub && (rfCB K (He.ga K "Line") .Add && (rfCB K (He.ga K "Line") .Sub && (rfCB K (He.ga K "Line") .Mult && (eqCB K (He.ga K "Line") && (PySem.W.fnIn K (He.ma K (He.ga K "Line") "__call__"))))))))))))))
abbrev R_ : PySem.W.OpenRow := PySem.W.OpenLaw.row PySem.Challenge.rw_openranges_k07_lines_added_and_moved
abbrev hk : PySem.W.Hook := He.hookX 6 fa_ fn [] [] ex_
def ob (s : PySem.W.SharedT) : He.AlX := He.obsX 6 fa_ fn [] [] ex_ (HandSHeadRun.getT s)
theorem ob_eq (s : PySem.W.SharedT) : ob s = hk.obs s.abs := He.obsX_eq (HandSHeadRun.getT_eq s)
def loose_ : List Str := ["value_at", "Line", "line_of", "_law_pen", "_law_draw", "_law_pick", "_law_spot", "_law_whole", "_law_line", "_law_worth", "_law_line_text", "_law_is"]
theorem run (w : World) : HandSHeadRun.RunEq R_ (PySem.W.view R_.prog [14]) hk ob 3000 loose_ w := by
  intro os
  kernel_rfl
end Lk07

namespace Lk07
open PySem PySem.Spec PyProof.Rows L2 DL
theorem all_ {P : Program} {w : World} {K : PySem.W.Frag} {h h' : Heap} {mg : Str → Option Value} {f : Addr} (X : K.In h) (G : h.Ns mainGlobals mg) (hfa : mg ("law" : Str) = some (.ref f)) (c : He.SaysX fa_ fn [] [] ex_ w h' K) :
    ∃ fd : FuncData, (∀ (s : Shared) (v : Value), BindsTo s fd ⟨[v], []⟩ [("_law_script", v)]) ∧ ∀ base : Heap, K.In base → base.Ns mainGlobals mg → FnOk P w K mg base CX0 6 f fd ["_law_script"] (spLaw K) := by
  have cd := c.t.d
  have cm : ex_ K = true := c.more
  unfold ex_ at cm
  rw [Bool.and_eq_true, Bool.and_eq_true, Bool.and_eq_true, Bool.and_eq_true, Bool.and_eq_true, Bool.and_eq_true, Bool.and_eq_true, Bool.and_eq_true, Bool.and_eq_true, Bool.and_eq_true, Bool.and_eq_true, Bool.and_eq_true, Bool.and_eq_true] at cm
  obtain ⟨m0, m1, m2, m3, m4, m5, m6, m7, m8, m9, m10, m11, m12, m13⟩ := cm
  obtain ⟨_, F_value_at⟩ := cd.def_ 0 (d := d_value_at) rfl
  obtain ⟨_, F_Line___init__⟩ := cd.def_ 1 (d := d_Line___init__) rfl
  obtain ⟨_, F_Line___call__⟩ := cd.def_ 2 (d := d_Line___call__) rfl
  obtain ⟨_, F_Line___eq__⟩ := cd.def_ 3 (d := d_Line___eq__) rfl
  obtain ⟨_, F_line_of⟩ := cd.def_ 4 (d := d_line_of) rfl
  obtain ⟨_, F_Line___add__⟩ := cd.def_ 5 (d := d_Line___add__) rfl
  obtain ⟨_, F_Line___radd__⟩ := cd.def_ 6 (d := d_Line___radd__) rfl
  obtain ⟨_, F_Line___sub__⟩ := cd.def_ 7 (d := d_Line___sub__) rfl
  obtain ⟨_, F_Line___neg__⟩ := cd.def_ 8 (d := d_Line___neg__) rfl
  obtain ⟨_, F_Line___rsub__⟩ := cd.def_ 9 (d := d_Line___rsub__) rfl
  obtain ⟨_, F_Line___mul__⟩ := cd.def_ 10 (d := d_Line___mul__) rfl
  obtain ⟨_, F_Line___rmul__⟩ := cd.def_ 11 (d := d_Line___rmul__) rfl
  obtain ⟨_, F_Line_moved⟩ := cd.def_ 12 (d := d_Line_moved) rfl
  obtain ⟨_, F_Line_mirrored⟩ := cd.def_ 13 (d := d_Line_mirrored) rfl
  obtain ⟨_, F_Line_text⟩ := cd.def_ 14 (d := d_Line_text) rfl
  obtain ⟨_, F__law_pen⟩ := cd.def_ 15 (d := d__law_pen) rfl
  obtain ⟨_, F__law_draw⟩ := cd.def_ 16 (d := d__law_draw) rfl
  obtain ⟨_, F__law_pick⟩ := cd.def_ 17 (d := d__law_pick) rfl
  obtain ⟨_, F__law_spot⟩ := cd.def_ 18 (d := d__law_spot) rfl
  obtain ⟨_, F__law_whole⟩ := cd.def_ 19 (d := d__law_whole) rfl
  obtain ⟨_, F__law_line⟩ := cd.def_ 20 (d := d__law_line) rfl
  obtain ⟨_, F__law_worth⟩ := cd.def_ 21 (d := d__law_worth) rfl
  obtain ⟨_, F__law_line_text⟩ := cd.def_ 22 (d := d__law_line_text) rfl
  obtain ⟨_, F__law_is⟩ := cd.def_ 23 (d := d__law_is) rfl
  obtain ⟨fd, F_law⟩ := cd.def_ 24 (d := d_law) rfl
  have e := hfa.symm.trans (He.glo_ok X G (cd.fact 11 (f := .glo "law") rfl))
  cases e
  have bt : Bt mg := ⟨(He.free_ok X G (cd.fact 13 (f := .free "len") rfl)), (He.free_ok X G (cd.fact 14 (f := .free "int") rfl)), (He.free_ok X G (cd.fact 15 (f := .free "abs") rfl)), (He.free_ok X G (cd.fact 16 (f := .free "min") rfl)), (He.free_ok X G (cd.fact 17 (f := .free "max") rfl)), (He.free_ok X G (cd.fact 18 (f := .free "range") rfl)), (He.free_ok X G (cd.fact 19 (f := .free "isinstance") rfl)), (He.free_ok X G (cd.fact 20 (f := .free "list") rfl)), (He.free_ok X G (cd.fact 21 (f := .free "tuple") rfl)), (He.free_ok X G (cd.fact 22 (f := .free "str") rfl))⟩
  have g_Line := (He.glo_ok X G (cd.fact 12 (f := .glo "Line") rfl))
  have cl_Line := (He.cls_ok (cd.fact 23 (f := .cls "Line") rfl))
  have na_Line_slope := (He.noat_ok (cd.fact 24 (f := .noat "Line" "slope") rfl))
  have na_Line_height := (He.noat_ok (cd.fact 25 (f := .noat "Line" "height") rfl))
  have eqc_Line := eqCB_ok m12
  have T : LineT K (He.ga K "Line") := ⟨⟨⟨cl_Line, na_Line_slope⟩, ⟨cl_Line, na_Line_height⟩⟩, isCB_ok cl_Line m0, kitB_ok m1, kitB_ok m2, kitB_ok m3, m4, m5⟩
  have b := FunD.bindsA (ps := ["_law_script"]) F_law fun _ _ _ _ _ _ us hl => match us, hl with | [_], _ => rfl
  refine ⟨fd, fun s v => b s [v] rfl, fun base KB GB => ?_⟩
  have h_value_at : ∀ pn, Fn P w K mg base CX0 pn 1 "value_at" ["line", "x"] (sp_value_at (He.ga K "Line")) := fun pn => fn_mk (ok_value_at F_value_at bt  hl_value_at (hp_value_at T.f)) F_value_at (He.glo_ok X G (cd.fact 0 (f := .glo "value_at") rfl)) (F_value_at.bindsN fun _ _ _ _ _ _ us hl => match us, hl with | [_, _], _ => rfl)
  have mk_Line : ∀ pn, Mkc P w K mg base CX0 pn 1 "Line" (He.ga K "Line") ["self", "slope", "height"] sp_Line___init__ := fun pn => mkc_mk (He.mkr_ok (cd.fact 26 (f := .mkr "Line") rfl)) g_Line (ok_Line___init__ F_Line___init__ bt  hl_init (hp_init T.f)) (F_Line___init__.bindsN fun _ _ _ _ _ _ us hl => match us, hl with | [_, _, _], _ => rfl)
  have hc_Line___call__ : ∀ pn, MeC P w K mg base CX0 pn 2 (He.ga K "Line") ["self", "x"] (sp_Line___call__ (He.ga K "Line")) := fun pn => ⟨⟨_, _, (ok_Line___call__ F_Line___call__ bt (h_value_at pn) hl_call hp_call), ⟨(He.meth_ok (cd.fact 27 (f := .meth "Line" "__call__") rfl)).at_, (He.meth_ok (cd.fact 27 (f := .meth "Line" "__call__") rfl)).fn, m13⟩, (F_Line___call__.bindsN fun _ _ _ _ _ _ us hl => match us, hl with | [_, _], _ => rfl)⟩⟩
  have h_Line___eq__ : ∀ pn, Me P w K mg base CX0 pn 1 (He.ga K "Line") "__eq__" ["self", "other"] (sp_Line___eq__ (He.ga K "Line")) := fun pn => me_mk cl_Line (He.meth_ok (cd.fact 28 (f := .meth "Line" "__eq__") rfl)) (ok_Line___eq__ F_Line___eq__ bt g_Line hl_Line___eq__ (hp_Line___eq__ T)) (F_Line___eq__.bindsN fun _ _ _ _ _ _ us hl => match us, hl with | [_, _], _ => rfl)
  have h_line_of : ∀ pn, Fn P w K mg base CX0 pn 3 "line_of" ["value"] (sp_line_of (He.ga K "Line")) := fun pn => fn_mk (ok_line_of F_line_of bt g_Line (mk_Line pn) hl_line_of (hp_line_of T)) F_line_of (He.glo_ok X G (cd.fact 1 (f := .glo "line_of") rfl)) (F_line_of.bindsN fun _ _ _ _ _ _ us hl => match us, hl with | [_], _ => rfl)
  have h_Line___add__ : ∀ pn, Me P w K mg base CX0 pn 4 (He.ga K "Line") "__add__" ["self", "other"] (sp_Line___add__ (He.ga K "Line")) := fun pn => me_mk cl_Line (He.meth_ok (cd.fact 29 (f := .meth "Line" "__add__") rfl)) (ok_Line___add__ F_Line___add__ bt (h_line_of pn) (mk_Line pn) hl_Line___add__ (hp_Line___add__ T)) (F_Line___add__.bindsN fun _ _ _ _ _ _ us hl => match us, hl with | [_, _], _ => rfl)
  have h_Line___radd__ : ∀ pn, Me P w K mg base CX0 pn 5 (He.ga K "Line") "__radd__" ["self", "other"] (sp_Line___radd__ (He.ga K "Line")) := fun pn => me_mk cl_Line (He.meth_ok (cd.fact 30 (f := .meth "Line" "__radd__") rfl)) (ok_Line___radd__ F_Line___radd__ bt (h_Line___add__ pn) (opCB_ok m6) hl_Line___radd__ (hp_Line___radd__)) (F_Line___radd__.bindsN fun _ _ _ _ _ _ us hl => match us, hl with | [_, _], _ => rfl)
  have h_Line___sub__ : ∀ pn, Me P w K mg base CX0 pn 4 (He.ga K "Line") "__sub__" ["self", "other"] (sp_Line___sub__ (He.ga K "Line")) := fun pn => me_mk cl_Line (He.meth_ok (cd.fact 31 (f := .meth "Line" "__sub__") rfl)) (ok_Line___sub__ F_Line___sub__ bt (h_line_of pn) (mk_Line pn) hl_Line___sub__ (hp_Line___sub__ T)) (F_Line___sub__.bindsN fun _ _ _ _ _ _ us hl => match us, hl with | [_, _], _ => rfl)
  have h_Line___neg__ : ∀ pn, Me P w K mg base CX0 pn 3 (He.ga K "Line") "__neg__" ["self"] (sp_Line___neg__ (He.ga K "Line")) := fun pn => me_mk cl_Line (He.meth_ok (cd.fact 32 (f := .meth "Line" "__neg__") rfl)) (ok_Line___neg__ F_Line___neg__ bt (mk_Line pn) hl_Line___neg__ (hp_Line___neg__ T.f)) (F_Line___neg__.bindsN fun _ _ _ _ _ _ us hl => match us, hl with | [_], _ => rfl)
  have h_Line___rsub__ : ∀ pn, Me P w K mg base CX0 pn 5 (He.ga K "Line") "__rsub__" ["self", "other"] (sp_Line___rsub__ (He.ga K "Line")) := fun pn => me_mk cl_Line (He.meth_ok (cd.fact 33 (f := .meth "Line" "__rsub__") rfl)) (ok_Line___rsub__ F_Line___rsub__ bt (h_Line___add__ pn) (opCB_ok m6) (h_Line___neg__ pn) hl_Line___rsub__ (hp_Line___rsub__)) (F_Line___rsub__.bindsN fun _ _ _ _ _ _ us hl => match us, hl with | [_, _], _ => rfl)
  have h_Line___mul__ : ∀ pn, Me P w K mg base CX0 pn 3 (He.ga K "Line") "__mul__" ["self", "factor"] (sp_Line___mul__ (He.ga K "Line")) := fun pn => me_mk cl_Line (He.meth_ok (cd.fact 34 (f := .meth "Line" "__mul__") rfl)) (ok_Line___mul__ F_Line___mul__ bt (mk_Line pn) hl_Line___mul__ (hp_Line___mul__ T.f)) (F_Line___mul__.bindsN fun _ _ _ _ _ _ us hl => match us, hl with | [_, _], _ => rfl)
  have h_Line___rmul__ : ∀ pn, Me P w K mg base CX0 pn 4 (He.ga K "Line") "__rmul__" ["self", "factor"] (sp_Line___rmul__ (He.ga K "Line")) := fun pn => me_mk cl_Line (He.meth_ok (cd.fact 35 (f := .meth "Line" "__rmul__") rfl)) (ok_Line___rmul__ F_Line___rmul__ bt (h_Line___mul__ pn) (opCB_ok m7) hl_Line___rmul__ (hp_Line___rmul__)) (F_Line___rmul__.bindsN fun _ _ _ _ _ _ us hl => match us, hl with | [_, _], _ => rfl)
  have h_Line_moved : ∀ pn, Me P w K mg base CX0 pn 3 (He.ga K "Line") "moved" ["self", "by"] (sp_Line_moved (He.ga K "Line")) := fun pn => me_mk cl_Line (He.meth_ok (cd.fact 36 (f := .meth "Line" "moved") rfl)) (ok_Line_moved F_Line_moved bt (mk_Line pn) hl_Line_moved (hp_Line_moved T.f)) (F_Line_moved.bindsN fun _ _ _ _ _ _ us hl => match us, hl with | [_, _], _ => rfl)
  have h_Line_mirrored : ∀ pn, Me P w K mg base CX0 pn 3 (He.ga K "Line") "mirrored" ["self", "last"] (sp_Line_mirrored (He.ga K "Line")) := fun pn => me_mk cl_Line (He.meth_ok (cd.fact 37 (f := .meth "Line" "mirrored") rfl)) (ok_Line_mirrored F_Line_mirrored bt (mk_Line pn) hl_Line_mirrored (hp_Line_mirrored T.f)) (F_Line_mirrored.bindsN fun _ _ _ _ _ _ us hl => match us, hl with | [_, _], _ => rfl)
  have h_Line_text : ∀ pn, Me P w K mg base CX0 pn 1 (He.ga K "Line") "text" ["self"] (sp_Line_text (He.ga K "Line")) := fun pn => me_mk cl_Line (He.meth_ok (cd.fact 38 (f := .meth "Line" "text") rfl)) (ok_Line_text F_Line_text bt  hl_Line_text (hp_Line_text T.f)) (F_Line_text.bindsN fun _ _ _ _ _ _ us hl => match us, hl with | [_], _ => rfl)
  have h__law_draw : ∀ p, Fn P w K mg base CX0 (some p) 1 "_law_draw" ["_law_pen_here", "_law_many"] (sp__law_draw p) := fun p => fn_mk (ok__law_draw F__law_draw bt) F__law_draw (He.glo_ok X G (cd.fact 3 (f := .glo "_law_draw") rfl)) (F__law_draw.bindsN fun _ _ _ _ _ _ us hl => match us, hl with | [_, _], _ => rfl)
  have h__law_pick : ∀ p, Fn P w K mg base CX0 (some p) 2 "_law_pick" ["_law_pen_here", "_law_items"] (sp__law_pick p) := fun p => fn_mk (ok__law_pick F__law_pick bt (h__law_draw p) hl__law_pick (hp__law_pick)) F__law_pick (He.glo_ok X G (cd.fact 4 (f := .glo "_law_pick") rfl)) (F__law_pick.bindsN fun _ _ _ _ _ _ us hl => match us, hl with | [_, _], _ => rfl)
  have h__law_spot : ∀ p, Fn P w K mg base CX0 (some p) 2 "_law_spot" ["_law_pen_here"] (sp__law_spot p) := fun p => fn_mk (ok__law_spot F__law_spot bt (h__law_draw p) hl__law_spot (hp__law_spot)) F__law_spot (He.glo_ok X G (cd.fact 5 (f := .glo "_law_spot") rfl)) (F__law_spot.bindsN fun _ _ _ _ _ _ us hl => match us, hl with | [_], _ => rfl)
  have h__law_whole : ∀ p, Fn P w K mg base CX0 (some p) 3 "_law_whole" ["_law_pen_here"] (sp__law_whole p) := fun p => fn_mk (ok__law_whole F__law_whole bt (h__law_pick p) (h__law_draw p) hl__law_whole (hp__law_whole)) F__law_whole (He.glo_ok X G (cd.fact 6 (f := .glo "_law_whole") rfl)) (F__law_whole.bindsN fun _ _ _ _ _ _ us hl => match us, hl with | [_], _ => rfl)
  have h__law_line : ∀ p, Fn P w K mg base CX0 (some p) 4 "_law_line" ["_law_pen_here"] (sp__law_line p) := fun p => fn_mk (ok__law_line F__law_line bt (h__law_pick p) (h__law_draw p) (h__law_whole p) hl__law_line (hp__law_line)) F__law_line (He.glo_ok X G (cd.fact 7 (f := .glo "_law_line") rfl)) (F__law_line.bindsN fun _ _ _ _ _ _ us hl => match us, hl with | [_], _ => rfl)
  have h__law_worth : ∀ pn, Fn P w K mg base CX0 pn 1 "_law_worth" ["_law_line_here", "_law_x"] sp__law_worth := fun pn => fn_mk (ok__law_worth F__law_worth bt  hl__law_worth (hp__law_worth)) F__law_worth (He.glo_ok X G (cd.fact 8 (f := .glo "_law_worth") rfl)) (F__law_worth.bindsN fun _ _ _ _ _ _ us hl => match us, hl with | [_, _], _ => rfl)
  have h__law_line_text : ∀ pn, Fn P w K mg base CX0 pn 1 "_law_line_text" ["_law_line_here"] sp__law_line_text := fun pn => fn_mk (ok__law_line_text F__law_line_text bt  hl__law_line_text (hp__law_line_text)) F__law_line_text (He.glo_ok X G (cd.fact 9 (f := .glo "_law_line_text") rfl)) (F__law_line_text.bindsN fun _ _ _ _ _ _ us hl => match us, hl with | [_], _ => rfl)
  have h__law_is : ∀ pn, Fn P w K mg base CX0 pn 3 "_law_is" ["_law_line_here", "_law_due"] (sp__law_is (He.ga K "Line")) := fun pn => fn_mk (ok__law_is F__law_is bt (h_Line___eq__ pn) (mk_Line pn) g_Line hl__law_is (hp__law_is T)) F__law_is (He.glo_ok X G (cd.fact 10 (f := .glo "_law_is") rfl)) (F__law_is.bindsN fun _ _ _ _ _ _ us hl => match us, hl with | [_, _], _ => rfl)
  exact ok_law F_law bt (ok__law_pen F__law_pen bt) (He.glo_ok X G (cd.fact 2 (f := .glo "_law_pen") rfl)) F__law_pen.kp (F__law_pen.bindsN fun _ _ _ _ _ _ us hl => match us, hl with | [_], _ => rfl) h__law_whole h__law_line (fun p => mk_Line (some p)) (fun p => h__law_is (some p)) (fun p => h_Line___add__ (some p)) (opCB_ok m6) (fun p => h_Line___sub__ (some p)) (opCB_ok m8) (fun p => h_Line___radd__ (some p)) (rfCB_ok m9) (fun p => h_Line___rsub__ (some p)) (rfCB_ok m10) (fun p => h_Line___mul__ (some p)) (opCB_ok m7) (fun p => h_Line___rmul__ (some p)) (rfCB_ok m11) (fun p => h_Line___neg__ (some p)) (fun p => h_Line___eq__ (some p)) eqc_Line h__law_spot (fun p => hc_Line___call__ (some p)) (fun p => h__law_worth (some p)) (fun p => h_Line_moved (some p)) (fun p => h_Line_mirrored (some p)) (fun p => h_Line_text (some p)) (fun p => h__law_line_text (some p)) (hp_law T)
end Lk07
open PySem PySem.W PySem.Calls PyProof.Rows
theorem PySem.Challenge.cw_openranges_k07_lines_added_and_moved_holds : PySem.Challenge.rw_openranges_k07_lines_added_and_moved.Holds := by
  w_on; o_law
  refine HandSHeadRun.head_any (r := OpenLaw.row PySem.Challenge.rw_openranges_k07_lines_added_and_moved) (q := view (OpenLaw.row PySem.Challenge.rw_openranges_k07_lines_added_and_moved).prog [14]) (H := Lk07.hk) (ob := Lk07.ob) (M := 3000) (loose := Lk07.loose_) (d := HandSHeadRun.topDef (OpenLaw.row PySem.Challenge.rw_openranges_k07_lines_added_and_moved).prog 14) (kwd := []) Lk07.ob_eq
    (by kernel_rfl) (fun s => by kernel_rfl) Lk07.run (by kernel_rfl) (by kernel_rfl) (by kernel_rfl) (by rfl) (by first | assumption | decide +kernel) (by decide +kernel) ⟨rfl, rfl, rfl, rfl, rfl, by decide +kernel⟩ ?hw ?hc
  case hw => w_witness2
  case hc =>
    refine L2.walk_ofE (l := PySem.Challenge.rw_openranges_k07_lines_added_and_moved) (n := 63) (k := 6) (x := "_law_script") (CX := L2.CX0) rfl (by decide) (by kernel_rfl) ⟨rfl, by decide, by decide⟩ ?F (fun _ _ _ _ z => z)
    intro w mg fa h Y G hmg0
    obtain ⟨K, KX, c⟩ := Y
    have hmg : mg ("law" : PySem.Str) = some (.ref fa) := by
      have e : (HandSHeadRun.topDef (OpenLaw.row PySem.Challenge.rw_openranges_k07_lines_added_and_moved).prog 14).name = ("law" : PySem.Str) := by kernel_rfl
      rw [← e]
      exact hmg0
    obtain ⟨fd, hb, hF⟩ := Lk07.all_ (P := (PySem.Challenge.rw_openranges_k07_lines_added_and_moved).prog) (w := w) KX G hmg c
    exact ⟨K, fd, DL.spLaw K, KX, hb, fun H a ns hl _ hS => ⟨a, ns, rfl, hS, hl, fun _ => rfl⟩, hF⟩


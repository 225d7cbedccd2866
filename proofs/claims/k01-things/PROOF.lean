import PyProof.Rows.All
import Wide.All
import OpenK.AllK
import Wide.FinOn
import PyProof.EqAt
import PyProof.EqKinds
import PyProof.TupleCall
import HandS.Base
import HandS.Call
import HandS.List
import HandS.Comp
import HandS.Ends
import HandS.Dict
import HandS.Iter
import HandS.Text
import HandS.Exc
import HandS.ExcOwn
import HandS.Words
import HandS.Wide
import HandS.TupAny
import HandS.TupMul
import HandS.Deep
import HandS.Style
import HandS.IsInst
import HandS.WordsExc
import HandS.WordsList
import HandS.More
import KE.KStateDown
import HandS.Defaults
import HandS.Head0
import HandS.Head1
import HandS.Head2
import HandS.HeadEnd
import HandS.HeadHook1
import HandS.HeadHook2
import PySem.Challenge.RW_nearmerge_k01_what_things_rows_and_order
set_option Elab.async false
set_option linter.all false
set_option maxRecDepth 100000
/-! The law k01: the plain-value layer Zz (own work over the HandS modules), the defs as checked small texts, their specs, the law, the head. -/
section
namespace Zz
open PySem PySem.Spec PyProof.Rows L2
abbrev Frag := PySem.W.Frag

/-! ### plain values: tuples and lists that are never changed any more are told by what they hold -/
inductive PV where
  | non | bl (b : Bool) | int (i : Int) | str (x : Str) | ty (n : String) | ref (a : Addr)
  | tup (xs : List PV) | lst (xs : List PV) | rol (xs : List PV) | dct (kvs : List (Key × PV))
  deriving Inhabited

mutual
inductive Rep (K : Frag) (G : Hp) : PV → V → Prop
  | non : Rep K G .non .non
  | bl (b : Bool) : Rep K G (.bl b) (.bl b)
  | int (i : Int) : Rep K G (.int i) (.int i)
  | str (x : Str) (h : x.length ≤ sizeLine) : Rep K G (.str x) (.str x)
  | ty (n : String) : Rep K G (.ty n) (.ty n)
  | ref (a : Addr) : Rep K G (.ref a) (.ref a)
  | tup {a : Addr} {xs : List PV} {vs : List V} : G a = some (.tup vs) → RepA K G xs vs → xs.length ≤ sizeLine → Rep K G (.tup xs) (.ref a)
  | lst {a : Addr} {xs : List PV} {vs : List V} : G a = some (.lst vs) → RepA K G xs vs → xs.length ≤ sizeLine → Rep K G (.lst xs) (.ref a)
  | rol {a : Addr} {xs : List PV} {vs : List V} : SqL K G a vs → RepA K G xs vs → xs.length ≤ sizeLine → Rep K G (.rol xs) (.ref a)
  | dct {a : Addr} {kvs : List (Key × PV)} {vs : List (Key × V)} : G a = some (.dK vs) → RepK K G kvs vs → Rep K G (.dct kvs) (.ref a)
inductive RepA (K : Frag) (G : Hp) : List PV → List V → Prop
  | nil : RepA K G [] []
  | cons {x : PV} {xs : List PV} {v : V} {vs : List V} : Rep K G x v → RepA K G xs vs → RepA K G (x :: xs) (v :: vs)
inductive RepK (K : Frag) (G : Hp) : List (Key × PV) → List (Key × V) → Prop
  | nil : RepK K G [] []
  | cons {k : Key} {x : PV} {xs : List (Key × PV)} {v : V} {vs : List (Key × V)} : Rep K G x v → RepK K G xs vs → RepK K G ((k, x) :: xs) ((k, v) :: vs)
end

theorem sqT_mono {K : Frag} {G G' : Hp} {a : Addr} {vs : List V} (e : Same G G') (h : SqT K G a vs) : SqT K G' a vs := by
  rcases h with (h | ⟨o, h⟩) | h
  · exact .inl (.inl (e _ _ h))
  · exact .inl (.inr ⟨o, e _ _ h⟩)
  · exact .inr h

mutual
theorem Rep.mono {K : Frag} {G G' : Hp} (e : Same G G') : ∀ {x : PV} {v : V}, Rep K G x v → Rep K G' x v
  | _, _, .non => .non
  | _, _, .bl b => .bl b
  | _, _, .int i => .int i
  | _, _, .str x h => .str x h
  | _, _, .ty n => .ty n
  | _, _, .ref a => .ref a
  | _, _, .tup h r z => .tup (e _ _ h) (RepA.mono e r) z
  | _, _, .lst h r z => .lst (e _ _ h) (RepA.mono e r) z
  | _, _, .rol h r z => .rol (e.seq h) (RepA.mono e r) z
  | _, _, .dct h r => .dct (e _ _ h) (RepK.mono e r)
theorem RepA.mono {K : Frag} {G G' : Hp} (e : Same G G') : ∀ {xs : List PV} {vs : List V}, RepA K G xs vs → RepA K G' xs vs
  | _, _, .nil => .nil
  | _, _, .cons h r => .cons (Rep.mono e h) (RepA.mono e r)
theorem RepK.mono {K : Frag} {G G' : Hp} (e : Same G G') : ∀ {xs : List (Key × PV)} {vs : List (Key × V)}, RepK K G xs vs → RepK K G' xs vs
  | _, _, .nil => .nil
  | _, _, .cons h r => .cons (Rep.mono e h) (RepK.mono e r)
end

theorem RepA.length {K : Frag} {G : Hp} : ∀ {xs : List PV} {vs : List V}, RepA K G xs vs → xs.length = vs.length
  | _, _, .nil => rfl
  | _, _, .cons _ r => congrArg (· + 1) r.length
theorem RepA.append {K : Frag} {G : Hp} : ∀ {xs ys : List PV} {vs ws : List V}, RepA K G xs vs → RepA K G ys ws → RepA K G (xs ++ ys) (vs ++ ws)
  | _, _, _, _, .nil, q => q
  | _, _, _, _, .cons h r, q => .cons h (r.append q)
theorem RepA.get {K : Frag} {G : Hp} : ∀ {xs : List PV} {vs : List V} {i : Nat} {x : PV}, RepA K G xs vs → xs[i]? = some x → ∃ v, vs[i]? = some v ∧ Rep K G x v
  | _, _, _, _, .nil, h => by simp at h
  | _, _, 0, _, .cons h _, e => by simp at e; subst e; exact ⟨_, rfl, h⟩
  | _, _, i + 1, _, .cons _ r, e => by
    obtain ⟨v, h1, h2⟩ := r.get (i := i) (by simpa using e)
    exact ⟨v, by simpa using h1, h2⟩
theorem RepA.set {K : Frag} {G : Hp} {x : PV} {v : V} (q : Rep K G x v) : ∀ {xs : List PV} {vs : List V} (i : Nat), RepA K G xs vs → RepA K G (xs.set i x) (vs.set i v)
  | _, _, _, .nil => .nil
  | _, _, 0, .cons _ r => .cons q r
  | _, _, i + 1, .cons h r => .cons h (r.set q i)
theorem RepA.take {K : Frag} {G : Hp} : ∀ {xs : List PV} {vs : List V} (n : Nat), RepA K G xs vs → RepA K G (xs.take n) (vs.take n)
  | _, _, 0, _ => by simp; exact .nil
  | _, _, _ + 1, .nil => .nil
  | _, _, n + 1, .cons h r => .cons h (r.take n)
theorem RepA.drop {K : Frag} {G : Hp} : ∀ {xs : List PV} {vs : List V} (n : Nat), RepA K G xs vs → RepA K G (xs.drop n) (vs.drop n)
  | _, _, 0, r => r
  | _, _, _ + 1, .nil => .nil
  | _, _, n + 1, .cons _ r => r.drop n
theorem RepA.reverse {K : Frag} {G : Hp} : ∀ {xs : List PV} {vs : List V}, RepA K G xs vs → RepA K G xs.reverse vs.reverse
  | _, _, .nil => .nil
  | _, _, .cons h r => by
    rw [List.reverse_cons, List.reverse_cons]
    exact r.reverse.append (.cons h .nil)
theorem RepA.eraseIdx {K : Frag} {G : Hp} : ∀ {xs : List PV} {vs : List V} (n : Nat), RepA K G xs vs → RepA K G (xs.eraseIdx n) (vs.eraseIdx n)
  | _, _, _, .nil => .nil
  | _, _, 0, .cons _ r => r
  | _, _, n + 1, .cons h r => .cons h (r.eraseIdx n)
theorem RepA.dropLast {K : Frag} {G : Hp} {xs : List PV} {vs : List V} (r : RepA K G xs vs) : RepA K G xs.dropLast vs.dropLast := by
  rw [List.dropLast_eq_take, List.dropLast_eq_take, r.length]; exact r.take _
theorem RepA.inv_get {K : Frag} {G : Hp} : ∀ {xs : List PV} {vs : List V} {i : Nat} {v : V}, RepA K G xs vs → vs[i]? = some v → ∃ x, xs[i]? = some x ∧ Rep K G x v
  | _, _, _, _, .nil, h => by simp at h
  | _, _, 0, _, .cons h _, e => by simp at e; subst e; exact ⟨_, rfl, h⟩
  | _, _, i + 1, _, .cons _ r, e => by
    obtain ⟨v, h1, h2⟩ := r.inv_get (i := i) (by simpa using e)
    exact ⟨v, by simpa using h1, h2⟩

/-! ### the objects that may still be changed -/
inductive MObj where
  | lst (xs : List PV) | dK (kvs : List (Key × PV)) | dT (kvs : List (List Key × PV)) | ins (C : Addr) (fs : List (Str × PV))
abbrev Mem := Addr → Option MObj
def mset (M : Mem) (a : Addr) (o : MObj) : Mem := fun b => if b = a then some o else M b
def mdel (M : Mem) (a : Addr) : Mem := fun b => if b = a then none else M b
theorem mset_same {M : Mem} {a : Addr} {o : MObj} : mset M a o a = some o := if_pos rfl
theorem mset_ne {M : Mem} {a b : Addr} {o : MObj} (h : b ≠ a) : mset M a o b = M b := if_neg h
theorem mset_mset {M : Mem} {a : Addr} {o u : MObj} : mset (mset M a o) a u = mset M a u := by
  funext b; unfold mset; split <;> rfl
theorem mdel_mset {M : Mem} {a : Addr} {o : MObj} (h : M a = none) : mdel (mset M a o) a = M := by
  funext b; unfold mset mdel; split
  · rename_i e; subst e; exact h.symm
  · rename_i e; exact if_neg e

inductive RepP {κ : Type} (K : Frag) (G : Hp) : List (κ × PV) → List (κ × V) → Prop
  | nil : RepP K G [] []
  | cons {k : κ} {x : PV} {xs : List (κ × PV)} {v : V} {vs : List (κ × V)} : Rep K G x v → RepP K G xs vs → RepP K G ((k, x) :: xs) ((k, v) :: vs)
theorem RepP.mono {κ : Type} {K : Frag} {G G' : Hp} (e : Same G G') : ∀ {xs : List (κ × PV)} {vs : List (κ × V)}, RepP K G xs vs → RepP K G' xs vs
  | _, _, .nil => .nil
  | _, _, .cons h r => .cons (h.mono e) (RepP.mono e r)
theorem RepK.toP {K : Frag} {G : Hp} : ∀ {xs : List (Key × PV)} {vs : List (Key × V)}, RepK K G xs vs → RepP K G xs vs
  | _, _, .nil => .nil
  | _, _, .cons h r => .cons h r.toP
theorem RepP.toK {K : Frag} {G : Hp} : ∀ {xs : List (Key × PV)} {vs : List (Key × V)}, RepP K G xs vs → RepK K G xs vs
  | _, _, .nil => .nil
  | _, _, .cons h r => .cons h r.toK

inductive RepO (K : Frag) (G : Hp) : MObj → HO → Prop
  | lst {xs : List PV} {vs : List V} : RepA K G xs vs → xs.length ≤ sizeLine → RepO K G (.lst xs) (.lst vs)
  | dK {xs : List (Key × PV)} {vs : List (Key × V)} : RepP K G xs vs → RepO K G (.dK xs) (.dK vs)
  | dT {xs : List (List Key × PV)} {vs : List (List Key × V)} : RepP K G xs vs → RepO K G (.dT xs) (.dT vs)
  | ins {C dx : Addr} {xs : List (Str × PV)} {vs : List (Str × V)} : RepP K G xs vs → RepO K G (.ins C xs) (.ins C dx vs)
theorem RepO.mono {K : Frag} {G G' : Hp} (e : Same G G') {o : MObj} {u : HO} (h : RepO K G o u) : RepO K G' o u := by
  cases h with
  | lst r z => exact .lst (r.mono e) z
  | dK r => exact .dK (r.mono e)
  | dT r => exact .dT (r.mono e)
  | ins r => exact .ins (r.mono e)

def MemOk (K : Frag) (G : Hp) (M : Mem) (H : Hp) : Prop := ∀ a o, M a = some o → G a = none ∧ ∃ u, H a = some u ∧ RepO K G o u
abbrev ZSt := List (Option PV)
structure ZS (K : Frag) (G0 : Hp) (z : ZSt) (M : Mem) (G : Hp) (σ : L2.St) (H : Hp) : Prop where
  le : Same G0 G
  sub : Same G H
  mem : MemOk K G M H
  len : z.length = σ.length
  slot : ∀ (i : Nat) (x : PV), z[i]? = some (some x) → ∃ v, σ[i]? = some (some v) ∧ Rep K G x v

section
variable {K : Frag} {G0 G G' : Hp} {z : ZSt} {M : Mem} {σ : L2.St} {H H' : Hp}
theorem ZS.weak {G1 : Hp} (s : ZS K G1 z M G σ H) (e : Same G0 G1) : ZS K G0 z M G σ H := ⟨e.trans s.le, s.sub, s.mem, s.len, s.slot⟩
theorem ZS.nofree (s : ZS K G0 z M G σ H) {p : Addr} (h : H p = none) : M p = none := by
  cases e : M p with
  | none => rfl
  | some o => obtain ⟨_, u, q, _⟩ := s.mem p o e; rw [h] at q; cases q
theorem same_upd {H : Hp} {p : Addr} {o : HO} (h : H p = none) : Same H (upd H p o) := fun b u e => by rw [upd_ne (ne_of_none e h)]; exact e
/-- a new thing that won't change -/
theorem ZS.froz (s : ZS K G0 z M G σ H) {p : Addr} {o : HO} (h : H p = none) : ZS K G0 z M (upd G p o) σ (upd H p o) ∧ Same G (upd G p o) := by
  have gp : G p = none := s.sub.free h
  have e : Same G (upd G p o) := same_upd gp
  refine ⟨⟨s.le.trans e, fun a u q => ?_, fun a u q => ?_, s.len, fun i x q => ?_⟩, e⟩
  · by_cases hb : a = p
    · subst hb; rw [upd_same] at q ⊢; exact q
    · rw [upd_ne hb] at q ⊢; exact s.sub _ _ q
  · obtain ⟨h1, v, h2, h3⟩ := s.mem a u q
    have hb : a ≠ p := ne_of_none h2 h
    exact ⟨by rw [upd_ne hb]; exact h1, v, by rw [upd_ne hb]; exact h2, h3.mono e⟩
  · obtain ⟨v, h1, h2⟩ := s.slot i x q
    exact ⟨v, h1, h2.mono e⟩
/-- a new thing that may change -/
theorem ZS.news (s : ZS K G0 z M G σ H) {p : Addr} {o : MObj} {u : HO} (h : H p = none) (r : RepO K G o u) : ZS K G0 z (mset M p o) G σ (upd H p u) := by
  have gp : G p = none := s.sub.free h
  refine ⟨s.le, fun a w q => ?_, fun a w q => ?_, s.len, s.slot⟩
  · rw [upd_ne (ne_of_none q gp)]; exact s.sub _ _ q
  · by_cases hb : a = p
    · subst hb; rw [mset_same] at q; cases q
      exact ⟨gp, u, upd_same, r⟩
    · rw [mset_ne hb] at q
      obtain ⟨h1, v, h2, h3⟩ := s.mem a w q
      exact ⟨h1, v, by rw [upd_ne hb]; exact h2, h3⟩
/-- a new thing that nobody watches -/
theorem ZS.loose (s : ZS K G0 z M G σ H) {p : Addr} {u : HO} (h : H p = none) : ZS K G0 z M G σ (upd H p u) :=
  ⟨s.le, fun a w q => same_upd h _ _ (s.sub _ _ q), fun a w q => by
    obtain ⟨h1, v, h2, h3⟩ := s.mem a w q
    exact ⟨h1, v, same_upd h _ _ h2, h3⟩, s.len, s.slot⟩
/-- a watched thing is written -/
theorem ZS.writ (s : ZS K G0 z M G σ H) {p : Addr} {o0 o : MObj} {u : HO} (h : M p = some o0) (r : RepO K G o u) : ZS K G0 z (mset M p o) G σ (upd H p u) := by
  obtain ⟨gp, _⟩ := s.mem p o0 h
  refine ⟨s.le, fun a w q => ?_, fun a w q => ?_, s.len, s.slot⟩
  · rw [upd_ne (ne_of_none q gp)]; exact s.sub _ _ q
  · by_cases hb : a = p
    · subst hb; rw [mset_same] at q; cases q
      exact ⟨gp, u, upd_same, r⟩
    · rw [mset_ne hb] at q
      obtain ⟨h1, v, h2, h3⟩ := s.mem a w q
      exact ⟨h1, v, by rw [upd_ne hb]; exact h2, h3⟩
theorem ZS.set (s : ZS K G0 z M G σ H) {i : Nat} {x : PV} {v : V} (r : Rep K G x v) : ZS K G0 (z.set i (some x)) M G (σ.set i (some v)) H :=
  ⟨s.le, s.sub, s.mem, by rw [List.length_set, List.length_set, s.len], fun j y q => by
    by_cases hj : i = j
    · subst hj
      have hi : i < z.length := by
        have := List.getElem?_eq_some_iff.mp q
        obtain ⟨h, _⟩ := this
        simpa using h
      rw [List.getElem?_set_self hi] at q
      cases q
      exact ⟨v, by rw [List.getElem?_set_self (by rw [← s.len]; exact hi)], r⟩
    · rw [List.getElem?_set_ne hj] at q
      obtain ⟨w, h1, h2⟩ := s.slot j y q
      exact ⟨w, by rw [List.getElem?_set_ne hj]; exact h1, h2⟩⟩
theorem ZS.unset (s : ZS K G0 z M G σ H) {i : Nat} : ZS K G0 (z.set i none) M G (σ.set i none) H :=
  ⟨s.le, s.sub, s.mem, by rw [List.length_set, List.length_set, s.len], fun j y q => by
    by_cases hj : i = j
    · subst hj
      by_cases hi : i < z.length
      · rw [List.getElem?_set_self hi] at q; cases q
      · rw [List.getElem?_eq_none (by simpa using hi)] at q; cases q
    · rw [List.getElem?_set_ne hj] at q
      obtain ⟨w, h1, h2⟩ := s.slot j y q
      exact ⟨w, by rw [List.getElem?_set_ne hj]; exact h1, h2⟩⟩
end

/-! ### readings over plain values, and how they stand for readings over the heap -/
abbrev ZK := PV → Mem → Prop
abbrev ZE := Addr → List (Str × PV) → ZSt → Mem → Prop
abbrev ZTE := ZE → ZSt → Mem → ZK → Prop
abbrev ZTT := ZE → ZSt → Mem → (Bool → Mem → Prop) → Prop
abbrev ZTA := ZE → ZSt → Mem → (List PV → Mem → Prop) → Prop
structure ZEnds where
  nx : ZSt → Mem → Prop
  rt : PV → Mem → Prop
  bk : ZSt → Mem → Prop := fun _ _ => False
  ct : ZSt → Mem → Prop := fun _ _ => False
abbrev ZTS := ZE → ZEnds → ZSt → Mem → Prop

/-- an exception's fields -/
def RepX (K : Frag) (G : Hp) (fs : List (Str × PV)) (d : Option Addr) (H : Hp) : Prop :=
  match fs with
  | [] => d = none
  | fs => ∃ dd vs, d = some dd ∧ H dd = some (.xd vs) ∧ RepP K G fs vs
def XLe (K : Frag) (G0 : Hp) (W : WX) (E : ZE) : Prop := ∀ C fs z M G σ H d, ZS K G0 z M G σ H → RepX K G fs d H → E C fs z M → W (.ref C) d σ H

def up (K : Frag) (G0 : Hp) (W : WX) (t : ZTE) : TE := fun σ H Q => ∃ z M G Qz Ez, ZS K G0 z M G σ H ∧ XLe K G0 W Ez ∧ t Ez z M Qz ∧
  ∀ x M' G' H' v, Same G G' → ZS K G0 z M' G' σ H' → Rep K G' x v → Qz x M' → Q v H'
def upT (K : Frag) (G0 : Hp) (W : WX) (t : ZTT) : TT := fun σ H Q => ∃ z M G Qz Ez, ZS K G0 z M G σ H ∧ XLe K G0 W Ez ∧ t Ez z M Qz ∧
  ∀ b M' G' H', Same G G' → ZS K G0 z M' G' σ H' → Qz b M' → Q b H'
def upA (K : Frag) (G0 : Hp) (W : WX) (t : ZTA) : TA := fun σ H Q => ∃ z M G Qz Ez, ZS K G0 z M G σ H ∧ XLe K G0 W Ez ∧ t Ez z M Qz ∧
  ∀ xs M' G' H' vs, Same G G' → ZS K G0 z M' G' σ H' → RepA K G' xs vs → Qz xs M' → Q vs H'
/-- a new list that nobody watches yet -/
def upL (K : Frag) (G0 : Hp) (W : WX) (t : ZTA) : TE := fun σ H Q => ∃ z M G Qz Ez, ZS K G0 z M G σ H ∧ XLe K G0 W Ez ∧ t Ez z M Qz ∧
  ∀ xs M' G' H' p vs, Same G G' → ZS K G0 z M' G' σ H' → H' p = none → RepA K G' xs vs → Qz xs M' → Q (.ref p) (upd H' p (.lst vs))
structure ELe (K : Frag) (G0 : Hp) (Dz : ZEnds) (D : Ends) : Prop where
  nx : ∀ z M G σ H, ZS K G0 z M G σ H → Dz.nx z M → D.nx σ H
  rt : ∀ z x M G σ H v, ZS K G0 z M G σ H → Rep K G x v → Dz.rt x M → D.rt v H
  bk : ∀ z M G σ H, ZS K G0 z M G σ H → Dz.bk z M → D.bk σ H
  ct : ∀ z M G σ H, ZS K G0 z M G σ H → Dz.ct z M → D.ct σ H
def upS (K : Frag) (G0 : Hp) (W : WX) (t : ZTS) : TS := fun D σ H => ∃ z M G Dz Ez, ZS K G0 z M G σ H ∧ XLe K G0 W Ez ∧ t Ez Dz z M ∧ ELe K G0 Dz D

theorem PE.imp {X : Cx} {e : Expr} {t t' : TE} (h : PE X e t) (w : ∀ σ H Q, t' σ H Q → t σ H Q) : PE X e t' := ⟨fun pins s σ H Q I q => h.run pins s σ H Q I (w σ H Q q)⟩
theorem PT.imp {X : Cx} {e : Expr} {t t' : TT} (h : PT X e t) (w : ∀ σ H Q, t' σ H Q → t σ H Q) : PT X e t' := ⟨fun pins s σ H Q I q => h.run pins s σ H Q I (w σ H Q q)⟩
theorem PW.imp {X : Cx} {e : Expr} {t t' : TT} (h : PW X e t) (w : ∀ σ H Q, t' σ H Q → t σ H Q) : PW X e t' := ⟨fun wh pins s σ H Q I q => h.run wh pins s σ H Q I (w σ H Q q)⟩
theorem PA.imp {X : Cx} {e : List Expr} {t t' : TA} (h : PA X e t) (w : ∀ σ H Q, t' σ H Q → t σ H Q) : PA X e t' := ⟨fun pos pins s σ H Q I q => h.run pos pins s σ H Q I (w σ H Q q)⟩
theorem PS.imp {X : Cx} {e : Stmt} {t t' : TS} (h : PS X e t) (w : ∀ D σ H, t' D σ H → t D σ H) : PS X e t' := ⟨fun pins s σ H D I q => h.run pins s σ H D I (w D σ H q)⟩
theorem PSs.imp {X : Cx} {e : List Stmt} {t t' : TS} (h : PSs X e t) (w : ∀ D σ H, t' D σ H → t D σ H) : PSs X e t' := ⟨fun pins s σ H D I q => h.run pins s σ H D I (w D σ H q)⟩
end Zz
end
section
namespace Zz
open PySem PySem.Spec PyProof.Rows L2

/-! ### what is read of a value -/
def refL (M : Mem) (a : Addr) : Option (List PV) := match M a with
  | some (.lst xs) => some xs
  | _ => none
theorem refL_ok {M : Mem} {a : Addr} {xs : List PV} (h : refL M a = some xs) : M a = some (.lst xs) := by
  unfold refL at h
  split at h
  · rename_i ys e; cases h; exact e
  · cases h
def asL (M : Mem) : PV → Option (List PV)
  | .lst xs => some xs
  | .rol xs => some xs
  | .ref a => refL M a
  | _ => none
def asT : PV → Option (List PV)
  | .tup xs => some xs
  | _ => none
/-- a list that is no script -/
def asW (M : Mem) : PV → Option (List PV)
  | .lst xs => some xs
  | .ref a => refL M a
  | _ => none
def asS (M : Mem) (x : PV) : Option (List PV) := match asT x with
  | some xs => some xs
  | none => asL M x
section
variable {K : Frag} {G0 G : Hp} {z : ZSt} {M : Mem} {σ : L2.St} {H : Hp} {x : PV} {v : V} {xs : List PV}
theorem asL_ok (s : ZS K G0 z M G σ H) (r : Rep K G x v) (h : asL M x = some xs) : ∃ a vs, v = .ref a ∧ SqL K H a vs ∧ RepA K G xs vs ∧ xs.length ≤ sizeLine := by
  cases x with
  | lst ys =>
    cases h
    cases r with
    | lst h1 h2 h3 => exact ⟨_, _, rfl, .inl (.inl (s.sub _ _ h1)), h2, h3⟩
  | rol ys =>
    cases h
    cases r with
    | rol h1 h2 h3 => exact ⟨_, _, rfl, s.sub.seq h1, h2, h3⟩
  | ref a =>
    cases r
    obtain ⟨_, u, h1, h2⟩ := s.mem a _ (refL_ok h)
    cases h2 with
    | lst h2 h3 => exact ⟨_, _, rfl, .inl (.inl h1), h2, h3⟩
  | _ => cases h
theorem asW_ok (s : ZS K G0 z M G σ H) (r : Rep K G x v) (h : asW M x = some xs) : ∃ a vs, v = .ref a ∧ H a = some (.lst vs) ∧ RepA K G xs vs ∧ xs.length ≤ sizeLine := by
  cases x with
  | lst ys =>
    cases h
    cases r with
    | lst h1 h2 h3 => exact ⟨_, _, rfl, s.sub _ _ h1, h2, h3⟩
  | ref a =>
    cases r
    obtain ⟨_, u, h1, h2⟩ := s.mem a _ (refL_ok h)
    cases h2 with
    | lst h2 h3 => exact ⟨_, _, rfl, h1, h2, h3⟩
  | _ => cases h
theorem asT_ok (s : ZS K G0 z M G σ H) (r : Rep K G x v) (h : asT x = some xs) : ∃ a vs, v = .ref a ∧ H a = some (.tup vs) ∧ RepA K G xs vs ∧ xs.length ≤ sizeLine := by
  cases x with
  | tup ys =>
    cases h
    cases r with
    | tup h1 h2 h3 => exact ⟨_, _, rfl, s.sub _ _ h1, h2, h3⟩
  | _ => cases h
theorem asS_ok (s : ZS K G0 z M G σ H) (r : Rep K G x v) (h : asS M x = some xs) : ∃ a vs, v = .ref a ∧ (SqL K H a vs ∨ SqT K H a vs) ∧ RepA K G xs vs ∧ xs.length ≤ sizeLine := by
  unfold asS at h
  split at h
  · rename_i ys e
    cases h
    obtain ⟨a, vs, h1, h2, h3, h4⟩ := asT_ok s r e
    exact ⟨a, vs, h1, .inr (SqT.of h2), h3, h4⟩
  · obtain ⟨a, vs, h1, h2, h3, h4⟩ := asL_ok s r h
    exact ⟨a, vs, h1, .inl h2, h3, h4⟩
end

/-! ### plain data, compared -/
mutual
def toD : PV → PyData
  | .non => .none
  | .bl b => .bool b
  | .int i => .int i
  | .str x => .str x
  | .tup xs => .tuple (toDs xs)
  | .lst xs => .list (toDs xs)
  | .rol xs => .list (toDs xs)
  | _ => .none
def toDs : List PV → List PyData
  | [] => []
  | x :: xs => toD x :: toDs xs
end
mutual
def pureD : PV → Bool
  | .non => true
  | .bl _ => true
  | .int _ => true
  | .str _ => true
  | .tup xs => pureDs xs
  | .lst xs => pureDs xs
  | .rol xs => pureDs xs
  | _ => false
def pureDs : List PV → Bool
  | [] => true
  | x :: xs => pureD x && pureDs xs
end
mutual
theorem Rep.dp {K : Frag} {G H : Hp} (e : Same G H) : ∀ {x : PV} {v : V}, Rep K G x v → pureD x = true → Dp K H v (toD x)
  | _, _, .non, _ => by unfold toD; exact .non
  | _, _, .bl b, _ => by unfold toD; exact .bl b
  | _, _, .int i, _ => by unfold toD; exact .int i
  | _, _, .str x _, _ => by unfold toD; exact .str x
  | _, _, .ty n, h => by unfold pureD at h; cases h
  | _, _, .ref a, h => by unfold pureD at h; cases h
  | _, _, .tup h1 r _, h => by unfold toD; unfold pureD at h; exact .tup (SqT.of (e _ _ h1)) (RepA.dps e r h)
  | _, _, .lst h1 r _, h => by unfold toD; unfold pureD at h; exact .lst (.inl (.inl (e _ _ h1))) (RepA.dps e r h)
  | _, _, .rol h1 r _, h => by unfold toD; unfold pureD at h; exact .lst (e.seq h1) (RepA.dps e r h)
  | _, _, .dct _ _, h => by unfold pureD at h; cases h
theorem RepA.dps {K : Frag} {G H : Hp} (e : Same G H) : ∀ {xs : List PV} {vs : List V}, RepA K G xs vs → pureDs xs = true → DpAll K H vs (toDs xs)
  | _, _, .nil, _ => by unfold toDs; exact .nil
  | _, _, .cons h1 r, h => by
    unfold toDs
    unfold pureDs at h
    rw [Bool.and_eq_true] at h
    exact .cons (Rep.dp e h1 h.1) (RepA.dps e r h.2)
end
def okD (x : PV) : Bool := pureD x && SeqAt.shaped (toD x)
/-- a list that may be changed, as it stands -/
def rs (M : Mem) : PV → PV
  | .ref a => (match refL M a with
    | some xs => .lst xs
    | none => .ref a)
  | x => x
theorem rs_dp {K : Frag} {G0 G : Hp} {z : ZSt} {M : Mem} {σ : L2.St} {H : Hp} {x : PV} {v : V} (s : ZS K G0 z M G σ H) (r : Rep K G x v) (h : okD (rs M x) = true) : Dp K H v (toD (rs M x)) ∧ SeqAt.shaped (toD (rs M x)) = true := by
  unfold okD at h
  rw [Bool.and_eq_true] at h
  refine ⟨?_, h.2⟩
  cases x with
  | ref a =>
    cases r
    have e0 : rs M (.ref a) = (match refL M a with | some xs => .lst xs | none => .ref a) := rfl
    rw [e0] at h ⊢
    cases e : refL M a with
    | none => rw [e] at h; have h' := h.1; unfold pureD at h'; cases h'
    | some xs =>
      rw [e] at h
      obtain ⟨_, u, h1, h2⟩ := s.mem a _ (refL_ok e)
      cases h2 with
      | lst h2 h3 =>
        have h' := h.1
        unfold pureD at h'
        unfold toD
        exact .lst (.inl (.inl h1)) (RepA.dps s.sub h2 h')
  | _ => exact r.dp s.sub h.1

/-! ### operators by values -/
abbrev ZR2 := PV → PV → Mem → ZK → Prop
def upR (K : Frag) (G0 : Hp) (oz : ZR2) : R2 := fun v u H Q => ∃ z M G σ x y Qz, ZS K G0 z M G σ H ∧ Rep K G x v ∧ Rep K G y u ∧ oz x y M Qz ∧
  ∀ r M' G' H' w, Same G G' → ZS K G0 z M' G' σ H' → Rep K G' r w → Qz r M' → Q w H'
def z2 (oz : ZR2) (za zb : ZTE) : ZTE := fun E z M Q => za E z M fun x M1 => zb E z M1 fun y M2 => oz x y M2 Q
theorem up_2 {K : Frag} {G0 : Hp} {W : WX} {oz : ZR2} {za zb : ZTE} {σ : L2.St} {H : Hp} {Q : VK} (h : up K G0 W (z2 oz za zb) σ H Q) : tOp (upR K G0 oz) (up K G0 W za) (up K G0 W zb) σ H Q := by
  obtain ⟨z, M, G, Qz, Ez, s, xl, t, k⟩ := h
  exact ⟨z, M, G, _, Ez, s, xl, t, fun x M1 G1 H1 v e1 s1 r1 q1 => ⟨z, M1, G1, _, Ez, s1, xl, q1, fun y M2 G2 H2 u e2 s2 r2 q2 =>
    ⟨z, M2, G2, σ, x, y, Qz, s2, r1.mono e2, r2, q2, fun r M' G' H' w e3 s3 r3 q3 => k r M' G' H' w (e1.trans (e2.trans e3)) s3 r3 q3⟩⟩⟩
section
variable {X : Cx} {G0 : Hp} {W : WX} {a b c : Expr} {za zb zc : ZTE} {pos : Pos}
theorem z_bin {op : Operator} {oz : ZR2} (ho : OpR X (binaryOp op) (upR X.K G0 oz)) (ha : PE X a (up X.K G0 W za)) (hb : PE X b (up X.K G0 W zb)) : PE X (.BinOp a op b pos) (up X.K G0 W (z2 oz za zb)) :=
  PE.imp (pe_op ho ha hb) fun _ _ _ => up_2
theorem z_cmp {op : CmpOp} {oz : ZR2} (ho : OpR X (compareOp op) (upR X.K G0 oz)) (ha : PE X a (up X.K G0 W za)) (hb : PE X b (up X.K G0 W zb)) (hm : behindInMarks op b = false) : PE X (.Compare a [op] [b] pos) (up X.K G0 W (z2 oz za zb)) :=
  PE.imp (pe_cmpR ho ha hb hm) fun _ _ _ => up_2
end
def zBin (o : Operator) (x y : PV) (M : Mem) (Q : ZK) : Prop :=
  match o, x, y with
  | .Add, .int i, .int j => Q (.int (i + j)) M
  | .Add, .str i, .str j => i.length + j.length ≤ sizeLine ∧ Q (.str (i ++ j)) M
  | .Add, .tup i, .tup j => i.length + j.length ≤ sizeLine ∧ Q (.tup (i ++ j)) M
  | .Sub, .int i, .int j => Q (.int (i - j)) M
  | .Mult, .int i, .int j => CMulW i j ∧ Q (.int (i * j)) M
  | .Mult, .tup i, .int k => i ≠ [] ∧ 2 ≤ k ∧ k ≤ 1000 ∧ i.length ≤ 1000 ∧ Q (.tup (List.replicate k.toNat i).flatten) M
  | .FloorDiv, .int i, .int j => CDivW i j ∧ Q (.int (i / j)) M
  | .Mod, .int i, .int j => 0 < j ∧ Q (.int (i % j)) M
  | .Pow, .int i, .int j => CPow i j ∧ Q (.int (i ^ j.toNat)) M
  | .BitAnd, .int i, .int j => Q (.int (Builtin.bitAnd i j)) M
  | .BitOr, .int i, .int j => Q (.int (Builtin.bitOr i j)) M
  | .Add, x, y => ∃ i j, asW M x = some i ∧ asW M y = some j ∧ i.length + j.length ≤ sizeLine ∧ Q (.lst (i ++ j)) M
  | .Mult, x, .int k => ∃ i, asW M x = some i ∧ 0 ≤ k ∧ k ≤ sizeLine ∧ i.length * k.toNat ≤ sizeLine ∧ Q (.lst (List.replicate k.toNat i).flatten) M
  | _, _, _ => False
theorem RepA.rep {K : Frag} {G : Hp} {xs : List PV} {vs : List V} (r : RepA K G xs vs) : ∀ n : Nat, RepA K G (List.replicate n xs).flatten (List.replicate n vs).flatten
  | 0 => by simp; exact .nil
  | n + 1 => by
    rw [List.replicate_succ, List.replicate_succ, List.flatten_cons, List.flatten_cons]
    exact r.append (r.rep n)
theorem RepA.nil_iff {K : Frag} {G : Hp} {xs : List PV} {vs : List V} (r : RepA K G xs vs) : xs = [] ↔ vs = [] := by
  cases r <;> simp
theorem str_app_len (a b : Str) : (a ++ b).length = a.length + b.length := by
  show (a.cps ++ b.cps).size = _
  simp [Str.length]
theorem size63 : (sizeLine : Nat) < 2 ^ 62 := by decide
section
variable {X : Cx} {G0 : Hp}
theorem z_bin_ok (o : Operator) : OpR X (binaryOp o) (upR X.K G0 (zBin o)) := by
  intro pins s σ' H v u vv uu Q I rv ru h
  obtain ⟨z, M, G, σ, x, y, Qz, hs, rx, ry, h, k⟩ := h
  unfold zBin at h
  split at h
  · cases rx; cases ry
    exact op_add pins s σ' H _ _ vv uu Q I rv ru ⟨_, _, rfl, rfl, k _ M G H _ (Same.refl _) hs (.int _) h⟩
  · cases rx; cases ry
    exact op_add_str pins s σ' H _ _ vv uu Q I rv ru ⟨_, _, rfl, rfl, h.1, k _ M G H _ (Same.refl _) hs (.str _ (by rw [str_app_len]; exact h.1)) h.2⟩
  · obtain ⟨a, vs, rfl, h1, h2, _⟩ := asT_ok hs rx rfl
    obtain ⟨b, ws, rfl, h3, h4, _⟩ := asT_ok hs ry rfl
    have hl := h.1
    rw [h2.length, h4.length] at hl
    refine op_catA pins s σ' H _ _ vv uu Q I rv ru ⟨_, _, vs, ws, rfl, rfl, SqT.of h1, SqT.of h3, hl, fun e => ?_, fun e1 e2 => ?_, fun _ _ p hp => ?_⟩
    · have := h2.nil_iff.mpr e
      subst this
      exact k _ M G H _ (Same.refl _) hs (by simpa using ry) h.2
    · have := h4.nil_iff.mpr e2
      subst this
      exact k _ M G H _ (Same.refl _) hs (by simpa using rx) h.2
    · obtain ⟨s', e⟩ := hs.froz (o := .tup (vs ++ ws)) hp
      exact k _ M _ _ _ e s' (.tup upd_same ((h2.append h4).mono e) (by rw [List.length_append]; exact h.1)) h.2
  · cases rx; cases ry
    exact op_sub pins s σ' H _ _ vv uu Q I rv ru ⟨_, _, rfl, rfl, k _ M G H _ (Same.refl _) hs (.int _) h⟩
  · cases rx; cases ry
    exact op_mulW pins s σ' H _ _ vv uu Q I rv ru ⟨_, _, rfl, rfl, h.1, k _ M G H _ (Same.refl _) hs (.int _) h.2⟩
  · obtain ⟨a, vs, rfl, h1, h2, _⟩ := asT_ok hs rx rfl
    cases ry
    obtain ⟨q1, q2, q3, q4, q5⟩ := h
    refine op_repT pins s σ' H _ _ vv uu Q I rv ru ⟨_, _, vs, rfl, rfl, SqT.of h1, fun e => q1 (h2.nil_iff.mpr e), q2, q3, by rw [← h2.length]; exact q4, fun p hp => ?_⟩
    obtain ⟨s', e⟩ := hs.froz (o := .tup (List.replicate _ vs).flatten) hp
    refine k _ M _ _ _ e s' (.tup upd_same ((h2.rep _).mono e) ?_) q5
    simp only [List.length_flatten, List.map_replicate, List.sum_replicate_nat]
    have hk : ∀ k : Int, k ≤ 1000 → k.toNat ≤ 1000 := fun k h => by omega
    calc _ ≤ 1000 * 1000 := Nat.mul_le_mul (hk _ q3) q4
      _ ≤ sizeLine := by decide
  · cases rx; cases ry
    exact op_fdivW pins s σ' H _ _ vv uu Q I rv ru ⟨_, _, rfl, rfl, h.1, k _ M G H _ (Same.refl _) hs (.int _) h.2⟩
  · cases rx; cases ry
    exact op_mod pins s σ' H _ _ vv uu Q I rv ru ⟨_, _, rfl, rfl, h.1, k _ M G H _ (Same.refl _) hs (.int _) h.2⟩
  · cases rx; cases ry
    exact op_pow pins s σ' H _ _ vv uu Q I rv ru ⟨_, _, rfl, rfl, h.1, k _ M G H _ (Same.refl _) hs (.int _) h.2⟩
  · cases rx; cases ry
    exact op_and pins s σ' H _ _ vv uu Q I rv ru ⟨_, _, rfl, rfl, k _ M G H _ (Same.refl _) hs (.int _) h⟩
  · cases rx; cases ry
    exact op_or pins s σ' H _ _ vv uu Q I rv ru ⟨_, _, rfl, rfl, k _ M G H _ (Same.refl _) hs (.int _) h⟩
  · obtain ⟨i, j, e1, e2, hl, q⟩ := h
    obtain ⟨a, vs, rfl, h1, h2, _⟩ := asW_ok hs rx e1
    obtain ⟨b, ws, rfl, h3, h4, _⟩ := asW_ok hs ry e2
    refine op_cat pins s σ' H _ _ vv uu Q I rv ru ⟨_, _, vs, ws, rfl, rfl, h1, h3, by rw [← h2.length, ← h4.length]; exact hl, fun p hp => ?_⟩
    obtain ⟨s', e⟩ := hs.froz (o := .lst (vs ++ ws)) hp
    exact k _ M _ _ _ e s' (.lst upd_same ((h2.append h4).mono e) (by rw [List.length_append]; exact hl)) q
  · obtain ⟨i, e1, k0, k1, hl, q⟩ := h
    obtain ⟨a, vs, rfl, h1, h2, _⟩ := asW_ok hs rx e1
    cases ry
    have := size63
    refine op_rep pins s σ' H _ _ vv uu Q I rv ru ⟨_, _, vs, rfl, rfl, h1, by omega, by omega, by rw [← h2.length]; exact hl, fun p hp => ?_⟩
    obtain ⟨s', e⟩ := hs.froz (o := .lst (List.replicate _ vs).flatten) hp
    refine k _ M _ _ _ e s' (.lst upd_same ((h2.rep _).mono e) ?_) q
    simp only [List.length_flatten, List.map_replicate, List.sum_replicate_nat]
    rw [Nat.mul_comm]
    exact hl
  · exact h.elim
end
end Zz
end
section
namespace Zz
open PySem PySem.Spec PyProof.Rows L2

/-! ### dicts by values -/
def valP {κ : Type} [DecidableEq κ] (kvs : List (κ × PV)) (k : κ) : Option PV := (kvs.find? fun kv => decide (kv.1 = k)).map (·.2)
def putP {κ : Type} [DecidableEq κ] (kvs : List (κ × PV)) (k : κ) (v : PV) : List (κ × PV) :=
  if (kvs.any fun kv => decide (kv.1 = k)) = true then kvs.map (fun kv => if kv.1 = k then (kv.1, v) else kv) else kvs ++ [(k, v)]
section
variable {κ : Type} [DecidableEq κ] {K : Frag} {G : Hp}
theorem RepP.val {kvs : List (κ × PV)} {vs : List (κ × V)} (r : RepP K G kvs vs) (k : κ) : (valP kvs k = none ∧ valV vs k = none) ∨ ∃ x v, valP kvs k = some x ∧ valV vs k = some v ∧ Rep K G x v := by
  induction r with
  | nil => exact .inl ⟨rfl, rfl⟩
  | cons h r ih =>
    rename_i k' x xs v vs
    by_cases e : k' = k
    · exact .inr ⟨x, v, by simp [valP, List.find?_cons, e], by simp [valV, List.find?_cons, e], h⟩
    · rcases ih with ⟨h1, h2⟩ | ⟨x, v, h1, h2, h3⟩
      · exact .inl ⟨by simpa [valP, List.find?_cons, e] using h1, by simpa [valV, List.find?_cons, e] using h2⟩
      · exact .inr ⟨x, v, by simpa [valP, List.find?_cons, e] using h1, by simpa [valV, List.find?_cons, e] using h2, h3⟩
theorem RepP.any {kvs : List (κ × PV)} {vs : List (κ × V)} (r : RepP K G kvs vs) (k : κ) : (kvs.any fun kv => decide (kv.1 = k)) = (vs.any fun kv => decide (kv.1 = k)) := by
  induction r with
  | nil => rfl
  | cons h r ih => rw [List.any_cons, List.any_cons, ih]
theorem RepP.append {kvs ls : List (κ × PV)} {vs ws : List (κ × V)} (r : RepP K G kvs vs) (q : RepP K G ls ws) : RepP K G (kvs ++ ls) (vs ++ ws) := by
  induction r with
  | nil => exact q
  | cons h r ih => exact .cons h ih
theorem RepP.mapPut {kvs : List (κ × PV)} {vs : List (κ × V)} (r : RepP K G kvs vs) {k : κ} {x : PV} {v : V} (h : Rep K G x v) : RepP K G (kvs.map fun kv => if kv.1 = k then (kv.1, x) else kv) (vs.map fun kv => if kv.1 = k then (kv.1, v) else kv) := by
  induction r with
  | nil => exact .nil
  | cons h' r ih =>
    rename_i k' x' xs v' vs
    rw [List.map_cons, List.map_cons]
    by_cases e : k' = k
    · simp only [e, if_true]; exact .cons h (by simpa [e] using ih)
    · simp only [e, if_false]; exact .cons h' ih
theorem RepP.put {kvs : List (κ × PV)} {vs : List (κ × V)} (r : RepP K G kvs vs) {k : κ} {x : PV} {v : V} (h : Rep K G x v) : RepP K G (putP kvs k x) (putK vs k v) := by
  unfold putP putK
  rw [r.any k]
  split
  · exact r.mapPut h
  · exact r.append (.cons h .nil)
theorem RepP.length {kvs : List (κ × PV)} {vs : List (κ × V)} (r : RepP K G kvs vs) : kvs.length = vs.length := by
  induction r with
  | nil => rfl
  | cons h r ih => simp [ih]
end
/-- a key -/
def keyP : PV → Option Key
  | .int i => some (.inl i)
  | .str s => some (.inr s)
  | _ => none
def keysP : List PV → Option (List Key)
  | [] => some []
  | x :: r => (keyP x).bind fun k => (keysP r).map (k :: ·)
theorem keyP_ok {K : Frag} {G : Hp} {x : PV} {v : V} {k : Key} (r : Rep K G x v) (h : keyP x = some k) : v = kV k := by
  cases r <;> simp [keyP] at h <;> subst h <;> rfl
theorem keysP_ok {K : Frag} {G : Hp} : ∀ {xs : List PV} {vs : List V} {ks : List Key}, RepA K G xs vs → keysP xs = some ks → vs = ks.map kV
  | _, _, _, .nil, h => by simp [keysP] at h; subst h; rfl
  | _, _, _, .cons h1 r, h => by
    unfold keysP at h
    simp only [Option.bind_eq_some_iff, Option.map_eq_some_iff] at h
    obtain ⟨k, e1, ks, e2, rfl⟩ := h
    rw [List.map_cons, keyP_ok h1 e1, keysP_ok r e2]
/-- what stands at a key: of no dict, nothing is told -/
def dGet (M : Mem) (a : Addr) (x : PV) (k : Option PV → Prop) : Prop :=
  match M a with
  | some (.dK kvs) => ∃ c, keyP x = some c ∧ k (valP kvs c)
  | some (.dT kvs) => ∃ xs c, x = .tup xs ∧ keysP xs = some c ∧ k (valP kvs c)
  | _ => False
theorem dGet_ok {K : Frag} {G0 G : Hp} {z : ZSt} {M : Mem} {σ : L2.St} {H : Hp} (s : ZS K G0 z M G σ H) {a : Addr} {x : PV} {y : V} {k : Option PV → Prop} (r : Rep K G x y) (h : dGet M a x k) :
    ∃ o, k o ∧ ((o = none ∧ DGet H a y none) ∨ ∃ p v, o = some p ∧ DGet H a y (some v) ∧ Rep K G p v) := by
  unfold dGet at h
  split at h
  · rename_i kvs e
    obtain ⟨c, e1, q⟩ := h
    obtain ⟨_, u, h1, h2⟩ := s.mem a _ e
    cases h2 with
    | dK h2 =>
      have ey := keyP_ok r e1
      subst ey
      rcases h2.val c with ⟨a1, a2⟩ | ⟨p, v, a1, a2, a3⟩
      · exact ⟨none, by rw [← a1]; exact q, .inl ⟨rfl, by rw [← a2]; exact DGet.k h1⟩⟩
      · exact ⟨some p, by rw [← a1]; exact q, .inr ⟨p, v, rfl, by rw [← a2]; exact DGet.k h1, a3⟩⟩
  · rename_i kvs e
    obtain ⟨xs, c, rfl, e1, q⟩ := h
    obtain ⟨_, u, h1, h2⟩ := s.mem a _ e
    obtain ⟨b, vs, rfl, b1, b2, _⟩ := asT_ok s r rfl
    cases h2 with
    | dT h2 =>
      have ey := keysP_ok b2 e1
      subst ey
      rcases h2.val c with ⟨a1, a2⟩ | ⟨p, v, a1, a2, a3⟩
      · exact ⟨none, by rw [← a1]; exact q, .inl ⟨rfl, by rw [← a2]; exact DGet.t h1 b1⟩⟩
      · exact ⟨some p, by rw [← a1]; exact q, .inr ⟨p, v, rfl, by rw [← a2]; exact DGet.t h1 b1, a3⟩⟩
  · exact h.elim

/-! ### comparisons -/
def zEq (x y : PV) (M : Mem) (k : Bool → Prop) : Prop :=
  match x, y with
  | .int i, .int j => k (decide (i = j))
  | .str i, .str j => k (decide (i = j))
  | .bl i, .bl j => k (decide (i = j))
  | .non, .non => k true
  | x, y => okD (rs M x) = true ∧ okD (rs M y) = true ∧ k (PyData.eqv (toD (rs M x)) (toD (rs M y)))
def flatP : PV → Bool
  | .non => true
  | .bl _ => true
  | .int _ => true
  | .str _ => true
  | _ => false
def eqF : PV → PV → Bool
  | .non, .non => true
  | .bl a, .bl b => a == b
  | .bl a, .int b => (if a then 1 else 0) == b
  | .int a, .bl b => a == (if b then 1 else 0)
  | .int a, .int b => a == b
  | .str a, .str b => a == b
  | _, _ => false
def isDct (M : Mem) : PV → Bool
  | .ref a => match M a with
    | some (.dK _) => true
    | some (.dT _) => true
    | _ => false
  | _ => false
def zIn (x y : PV) (M : Mem) (k : Bool → Prop) : Prop :=
  match y with
  | .str b => ∃ c, x = .str ⟨#[c]⟩ ∧ k (decide (c ∈ b.cps.toList))
  | y => if isDct M y = true then ∃ a, y = .ref a ∧ dGet M a x fun o => k o.isSome
    else ∃ ys, asS M y = some ys ∧ (if (flatP x && ys.all flatP) = true then k (ys.any fun e => eqF e x)
      else asL M y = some ys ∧ okD x = true ∧ okD (.lst ys) = true ∧ k ((toDs ys).any fun e => PyData.eqv e (toD x)))
def isNonP : PV → Bool
  | .non => true
  | _ => false
def zIs (x y : PV) (k : Bool → Prop) : Prop :=
  match x, y with
  | x, .non => k (isNonP x)
  | .bl a, .bl b => k (decide (a = b))
  | _, _ => False
def zCmp (o : CmpOp) (x y : PV) (M : Mem) (Q : ZK) : Prop :=
  match o with
  | .Eq => zEq x y M fun b => Q (.bl b) M
  | .NotEq => zEq x y M fun b => Q (.bl (!b)) M
  | .In => zIn x y M fun b => Q (.bl b) M
  | .NotIn => zIn x y M fun b => Q (.bl (!b)) M
  | .Is => zIs x y fun b => Q (.bl b) M
  | .IsNot => zIs x y fun b => Q (.bl (!b)) M
  | .Lt => match x, y with
    | .int i, .int j => Q (.bl (decide (i < j))) M
    | .str i, .str j => Q (.bl (decide (i.cps.toList < j.cps.toList))) M
    | .tup xs, .tup ys => ∃ ns ms : List Int, xs = ns.map .int ∧ ys = ms.map .int ∧ Q (.bl (HT.lexLt ns ms)) M
    | _, _ => False
  | .LtE => match x, y with
    | .int i, .int j => Q (.bl (decide (i ≤ j))) M
    | _, _ => False
  | .Gt => match x, y with
    | .int i, .int j => Q (.bl (decide (j < i))) M
    | _, _ => False
  | .GtE => match x, y with
    | .int i, .int j => Q (.bl (decide (j ≤ i))) M
    | _, _ => False
theorem RepA.ints {K : Frag} {G : Hp} : ∀ {ns : List Int} {vs : List V}, RepA K G (ns.map .int) vs → vs = ns.map V.int
  | [], _, .nil => rfl
  | n :: ns, _, .cons h r => by cases h; rw [r.ints]; rfl
theorem flat_ok {K : Frag} {G : Hp} {x : PV} {v : V} (r : Rep K G x v) (h : flatP x = true) : flatV v = true := by
  cases r <;> first | rfl | cases h
theorem flats_ok {K : Frag} {G : Hp} : ∀ {xs : List PV} {vs : List V}, RepA K G xs vs → xs.all flatP = true → vs.all flatV = true
  | _, _, .nil, _ => rfl
  | _, _, .cons h r, e => by
    rw [List.all_cons, Bool.and_eq_true] at e ⊢
    exact ⟨flat_ok h e.1, flats_ok r e.2⟩
theorem eqF_ok {K : Frag} {G : Hp} {x y : PV} {v u : V} (r : Rep K G x v) (q : Rep K G y u) (h : flatP x = true) (h' : flatP y = true) : eqV v u = eqF x y := by
  cases r <;> cases q <;> first | rfl | cases h | cases h'
theorem any_ok {K : Frag} {G : Hp} {x : PV} {v : V} (q : Rep K G x v) (h' : flatP x = true) : ∀ {xs : List PV} {vs : List V}, RepA K G xs vs → xs.all flatP = true → inV v vs = xs.any fun e => eqF e x
  | _, _, .nil, _ => rfl
  | _, _, .cons h r, e => by
    rw [List.all_cons, Bool.and_eq_true] at e
    have ih := any_ok q h' r e.2
    unfold inV at ih ⊢
    rw [List.any_cons, List.any_cons, ih, eqF_ok h q e.1 h']
theorem zEq_ok {K : Frag} {G0 G : Hp} {z : ZSt} {M : Mem} {σ : L2.St} {H : Hp} {x y : PV} {v u : V} {k : Bool → Prop} (s : ZS K G0 z M G σ H) (r : Rep K G x v) (q : Rep K G y u) (h : zEq x y M k) :
    (scal v u = true ∧ k (decide (v = u))) ∨ ∃ d e, Dp K H v d ∧ Dp K H u e ∧ SeqAt.shaped d = true ∧ SeqAt.shaped e = true ∧ k (PyData.eqv d e) := by
  unfold zEq at h
  split at h
  · cases r; cases q
    exact .inl ⟨rfl, by simpa using h⟩
  · cases r; cases q
    exact .inl ⟨rfl, by simpa using h⟩
  · cases r; cases q
    exact .inl ⟨rfl, by simpa using h⟩
  · cases r; cases q
    exact .inl ⟨rfl, by simpa using h⟩
  · obtain ⟨h1, h2, h3⟩ := h
    obtain ⟨a1, a2⟩ := rs_dp s r h1
    obtain ⟨b1, b2⟩ := rs_dp s q h2
    exact .inr ⟨_, _, a1, b1, a2, b2, h3⟩
theorem isNon_ok {K : Frag} {G : Hp} {x : PV} {v : V} (r : Rep K G x v) : decide (v = .non) = isNonP x := by
  cases r <;> rfl
section
variable {X : Cx} {G0 : Hp}
theorem z_cmp_ok (o : CmpOp) (hu : X.A.units + 65 < cLine) : OpR X (compareOp o) (upR X.K G0 (zCmp o)) := by
  intro pins s σ' H v u vv uu Q I rv ru h
  obtain ⟨z, M, G, σ, x, y, Qz, hs, rx, ry, h, k⟩ := h
  have fin : ∀ b : Bool, Qz (.bl b) M → Q (.bl b) H := fun b q => k _ M G H _ (Same.refl _) hs (.bl b) q
  cases o with
  | Eq =>
    replace h : zEq x y M (fun b => Qz (.bl b) M) := h
    rcases zEq_ok hs rx ry h with ⟨h1, h2⟩ | ⟨d, e, h1, h2, h3, h4, h5⟩
    · exact op_eq pins s σ' H _ _ vv uu Q I rv ru ⟨h1, fin _ h2⟩
    · exact op_eqD (by omega) pins s σ' H _ _ vv uu Q I rv ru ⟨d, e, h1, h2, h3, h4, fin _ h5⟩
  | NotEq =>
    replace h : zEq x y M (fun b => Qz (.bl (!b)) M) := h
    rcases zEq_ok hs rx ry h with ⟨h1, h2⟩ | ⟨d, e, h1, h2, h3, h4, h5⟩
    · exact op_ne pins s σ' H _ _ vv uu Q I rv ru ⟨h1, fin _ h2⟩
    · exact op_neD (by omega) pins s σ' H _ _ vv uu Q I rv ru ⟨d, e, h1, h2, h3, h4, fin _ h5⟩
  | Lt =>
    unfold zCmp at h
    dsimp only at h
    split at h
    · cases rx; cases ry
      exact op_lt pins s σ' H _ _ vv uu Q I rv ru ⟨_, _, rfl, rfl, fin _ h⟩
    · cases rx; cases ry
      exact op_lt_str pins s σ' H _ _ vv uu Q I rv ru ⟨_, _, rfl, rfl, fin _ h⟩
    · obtain ⟨ns, ms, rfl, rfl, q⟩ := h
      obtain ⟨a, vs, rfl, a1, a2, _⟩ := asT_ok hs rx rfl
      obtain ⟨b, ws, rfl, b1, b2, _⟩ := asT_ok hs ry rfl
      rw [a2.ints] at a1
      rw [b2.ints] at b1
      exact op_ltT (by omega) pins s σ' H _ _ vv uu Q I rv ru ⟨_, _, ns, ms, rfl, rfl, SqT.of a1, SqT.of b1, fin _ q⟩
    · exact h.elim
  | LtE =>
    unfold zCmp at h
    dsimp only at h
    split at h
    · cases rx; cases ry
      exact op_le pins s σ' H _ _ vv uu Q I rv ru ⟨_, _, rfl, rfl, fin _ h⟩
    · exact h.elim
  | Gt =>
    unfold zCmp at h
    dsimp only at h
    split at h
    · cases rx; cases ry
      exact op_gt pins s σ' H _ _ vv uu Q I rv ru ⟨_, _, rfl, rfl, fin _ h⟩
    · exact h.elim
  | GtE =>
    unfold zCmp at h
    dsimp only at h
    split at h
    · cases rx; cases ry
      exact op_ge pins s σ' H _ _ vv uu Q I rv ru ⟨_, _, rfl, rfl, fin _ h⟩
    · exact h.elim
  | Is =>
    replace h : zIs x y (fun b => Qz (.bl b) M) := h
    unfold zIs at h
    split at h
    · cases ry
      exact op_isN pins s σ' H _ _ vv uu Q I rv ru ⟨rfl, by rw [isNon_ok rx]; exact fin _ h⟩
    · cases rx; cases ry
      exact op_isBl pins s σ' H _ _ vv uu Q I rv ru ⟨_, _, rfl, rfl, fin _ h⟩
    · exact h.elim
  | IsNot =>
    replace h : zIs x y (fun b => Qz (.bl (!b)) M) := h
    unfold zIs at h
    split at h
    · cases ry
      exact op_notN pins s σ' H _ _ vv uu Q I rv ru ⟨rfl, by rw [isNon_ok rx]; exact fin _ h⟩
    · cases rx; cases ry
      exact op_notBl pins s σ' H _ _ vv uu Q I rv ru ⟨_, _, rfl, rfl, fin _ h⟩
    · exact h.elim
  | In =>
    replace h : zIn x y M (fun b => Qz (.bl b) M) := h
    unfold zIn at h
    split at h
    · cases ry
      obtain ⟨c, rfl, q⟩ := h
      cases rx
      exact op_in_sign pins s σ' H _ _ vv uu Q I rv ru ⟨c, _, rfl, rfl, fin _ q⟩
    · split at h
      · obtain ⟨a, rfl, h⟩ := h
        cases ry
        cases ru
        obtain ⟨o, q, w⟩ := dGet_ok hs rx h
        rcases w with ⟨rfl, g⟩ | ⟨p, v', rfl, g, _⟩
        · exact d_in (by omega) I g rv fun s' I' => ⟨.bl false, H, I', rfl, fin _ q⟩
        · exact d_in (by omega) I g rv fun s' I' => ⟨.bl true, H, I', rfl, fin _ q⟩
      · obtain ⟨ys, e, h⟩ := h
        split at h
        · rename_i c
          rw [Bool.and_eq_true] at c
          obtain ⟨a, vs, rfl, a1, a2, _⟩ := asS_ok hs ry e
          refine op_in_seq pins s σ' H _ _ vv uu Q I rv ru ⟨a, vs, rfl, a1, flat_ok rx c.1, flats_ok a2 c.2, ?_⟩
          rw [any_ok rx c.1 a2 c.2]
          exact fin _ h
        · obtain ⟨e1, o1, o2, q⟩ := h
          obtain ⟨a, vs, rfl, a1, a2, _⟩ := asL_ok hs ry e1
          unfold okD at o1 o2
          rw [Bool.and_eq_true] at o1 o2
          have p2 := o2.1
          unfold pureD at p2
          have d2 := o2.2
          unfold toD at d2
          exact op_inD hu pins s σ' H _ _ vv uu Q I rv ru ⟨_, _, rx.dp hs.sub o1.1, .lst a1 (RepA.dps hs.sub a2 p2), o1.2, d2, fin _ q⟩
  | NotIn =>
    replace h : zIn x y M (fun b => Qz (.bl (!b)) M) := h
    unfold zIn at h
    split at h
    · cases ry
      obtain ⟨c, rfl, q⟩ := h
      cases rx
      exact op_notIn_sign pins s σ' H _ _ vv uu Q I rv ru ⟨c, _, rfl, rfl, fin _ q⟩
    · split at h
      · obtain ⟨a, rfl, h⟩ := h
        cases ry
        cases ru
        obtain ⟨o, q, w⟩ := dGet_ok hs rx h
        rcases w with ⟨rfl, g⟩ | ⟨p, v', rfl, g, _⟩
        · exact d_notIn (by omega) I g rv fun s' I' => ⟨.bl true, H, I', rfl, fin _ q⟩
        · exact d_notIn (by omega) I g rv fun s' I' => ⟨.bl false, H, I', rfl, fin _ q⟩
      · obtain ⟨ys, e, h⟩ := h
        split at h
        · rename_i c
          rw [Bool.and_eq_true] at c
          obtain ⟨a, vs, rfl, a1, a2, _⟩ := asS_ok hs ry e
          refine op_notIn_seq pins s σ' H _ _ vv uu Q I rv ru ⟨a, vs, rfl, a1, flat_ok rx c.1, flats_ok a2 c.2, ?_⟩
          rw [any_ok rx c.1 a2 c.2]
          exact fin _ h
        · obtain ⟨e1, o1, o2, q⟩ := h
          obtain ⟨a, vs, rfl, a1, a2, _⟩ := asL_ok hs ry e1
          unfold okD at o1 o2
          rw [Bool.and_eq_true] at o1 o2
          have p2 := o2.1
          unfold pureD at p2
          have d2 := o2.2
          unfold toD at d2
          exact op_notInD hu pins s σ' H _ _ vv uu Q I rv ru ⟨_, _, rx.dp hs.sub o1.1, .lst a1 (RepA.dps hs.sub a2 p2), o1.2, d2, fin _ q⟩
end
end Zz
end
section
namespace Zz
open PySem PySem.Spec PyProof.Rows L2

section
variable {X : Cx} {G0 : Hp} {W : WX} {e a b c : Expr} {es : List Expr} {za zb zc : ZTE} {pos : Pos} {K : Frag}
/-! ### names, constants -/
def zGet (z : ZSt) (i : Nat) : Option PV := (z[i]?).join
theorem zGet_some {z : ZSt} {i : Nat} {x : PV} (h : zGet z i = some x) : z[i]? = some (some x) := by
  unfold zGet at h
  cases e : z[i]? with
  | none => rw [e] at h; cases h
  | some o => rw [e] at h; simp at h; rw [h]
def zVar (i : Nat) : ZTE := fun _ z M Q => match zGet z i with
  | some x => Q x M
  | none => False
theorem z_var {i : Nat} {x : Str} (hN : X.N[i]? = some x) (hv : Vis X.env.scope x) (hd : (x == ("__debug__" : Str)) = false) (hcd : (x == ("__classdict__" : Str)) = false) : PE X (.Name x pos) (up X.K G0 W (zVar i)) :=
  PE.imp (pe_var hN hv hd hcd) fun σ H Q h => by
    obtain ⟨z, M, G, Qz, Ez, s, xl, t, k⟩ := h
    unfold zVar at t
    split at t
    · rename_i x e
      obtain ⟨v, h1, h2⟩ := s.slot i x (zGet_some e)
      exact ⟨v, h1, k x M G H v (Same.refl _) s h2 t⟩
    · exact t.elim
def zCst (x : PV) : ZTE := fun _ _ M Q => Q x M
theorem up_cst {x : PV} {v : V} (r : ∀ G, Rep K G x v) {σ : L2.St} {H : Hp} {Q : VK} (h : up K G0 W (zCst x) σ H Q) : Q v H := by
  obtain ⟨z, M, G, Qz, Ez, s, xl, t, k⟩ := h
  exact k x M G H v (Same.refl _) s (r G) t
theorem z_int {i j} : PE X (.Constant (.int i) j pos) (up X.K G0 W (zCst (.int i))) := PE.imp pe_int fun _ _ _ h => up_cst (fun _ => .int i) h
theorem z_bl {i j} : PE X (.Constant (.bool i) j pos) (up X.K G0 W (zCst (.bl i))) := PE.imp pe_bl fun _ _ _ h => up_cst (fun _ => .bl i) h
theorem z_non {j} : PE X (.Constant .none j pos) (up X.K G0 W (zCst .non)) := PE.imp pe_non fun _ _ _ h => up_cst (fun _ => .non) h
theorem z_str {i j} (hz : i.length ≤ sizeLine) : PE X (.Constant (.str i) j pos) (up X.K G0 W (zCst (.str i))) := PE.imp pe_str fun _ _ _ h => up_cst (fun _ => .str i hz) h
theorem z_glob {x : Str} {p : PV} {v : V} {u : Value} (hg : Gl X x) (hm : X.mg x = some u) (r : RelV v u) (q : ∀ G, Rep X.K G p v) (hd : (x == ("__debug__" : Str)) = false) : PE X (.Name x pos) (up X.K G0 W (zCst p)) :=
  PE.imp (pe_glob hg hm r hd) fun _ _ _ h => up_cst q h

/-! ### one operand -/
abbrev ZR1 := PV → Mem → ZK → Prop
def z1 (oz : ZR1) (za : ZTE) : ZTE := fun E z M Q => za E z M fun x M1 => oz x M1 Q
def zNeg : ZR1 := fun x M Q => match x with
  | .int i => Q (.int (-i)) M
  | _ => False
theorem z_neg (ha : PE X a (up X.K G0 W za)) : PE X (.UnaryOp .USub a pos) (up X.K G0 W (z1 zNeg za)) :=
  PE.imp (pe_un un_neg ha) fun σ H Q h => by
    obtain ⟨z, M, G, Qz, Ez, s, xl, t, k⟩ := h
    refine ⟨z, M, G, _, Ez, s, xl, t, fun x M1 G1 H1 v e1 s1 r1 q1 => ?_⟩
    unfold zNeg at q1
    split at q1
    · cases r1
      exact ⟨_, rfl, k _ _ _ _ _ e1 s1 (.int _) q1⟩
    · exact q1.elim
def zNotV : ZR1 := fun x M Q => match x with
  | .bl b => Q (.bl (!b)) M
  | _ => False
theorem z_notV (ha : PE X a (up X.K G0 W za)) : PE X (.UnaryOp .Not a pos) (up X.K G0 W (z1 zNotV za)) :=
  PE.imp (pe_not ha) fun σ H Q h => by
    obtain ⟨z, M, G, Qz, Ez, s, xl, t, k⟩ := h
    refine ⟨z, M, G, _, Ez, s, xl, t, fun x M1 G1 H1 v e1 s1 r1 q1 => ?_⟩
    unfold zNotV at q1
    split at q1
    · cases r1
      exact ⟨_, rfl, k _ _ _ _ _ e1 s1 (.bl _) q1⟩
    · exact q1.elim

/-! ### chains -/
def zChain (o o' : ZR2) (za zb zc : ZTE) : ZTE := fun E z M Q => za E z M fun x M1 => zb E z M1 fun y M2 => o x y M2 fun r M3 => match r with
  | .bl true => zc E z M3 fun w M4 => o' y w M4 Q
  | .bl false => Q (.bl false) M3
  | _ => False
theorem z_chain {op op' : CmpOp} {o o' : ZR2} (ho : OpR X (compareOp op) (upR X.K G0 o)) (ho' : OpR X (compareOp op') (upR X.K G0 o')) (ha : PE X a (up X.K G0 W za)) (hb : PE X b (up X.K G0 W zb)) (hc : PE X c (up X.K G0 W zc))
    (hm : lastMarks [op, op'] [b, c] = false) : PE X (.Compare a [op, op'] [b, c] pos) (up X.K G0 W (zChain o o' za zb zc)) :=
  PE.imp (pe_chain ho ho' ha hb hc hm) fun σ H Q h => by
    obtain ⟨z, M, G, Qz, Ez, s, xl, t, k⟩ := h
    refine ⟨z, M, G, _, Ez, s, xl, t, fun x M1 G1 H1 v e1 s1 r1 q1 => ⟨z, M1, G1, _, Ez, s1, xl, q1, fun y M2 G2 H2 u e2 s2 r2 q2 =>
      ⟨z, M2, G2, σ, x, y, _, s2, r1.mono e2, r2, q2, fun r M3 G3 H3 w e3 s3 r3 q3 => ?_⟩⟩⟩
    split at q3
    · cases r3
      refine ⟨true, rfl, iteT ⟨z, M3, G3, _, Ez, s3, xl, q3, fun w' M4 G4 H4 u' e4 s4 r4 q4 => ⟨z, M4, G4, σ, y, w', Qz, s4, r2.mono (e3.trans e4), r4, q4, fun r M' G' H' w e5 s5 r5 q5 =>
        k _ _ _ _ _ (e1.trans (e2.trans (e3.trans (e4.trans e5)))) s5 r5 q5⟩⟩⟩
    · cases r3
      exact ⟨false, rfl, iteF (k _ _ _ _ _ (e1.trans (e2.trans e3)) s3 (.bl _) q3)⟩
    · exact q3.elim

/-! ### tests -/
def tOf (za : ZTE) : ZTT := fun E z M Q => za E z M fun x M1 => match x with
  | .bl b => Q b M1
  | _ => False
theorem up_tOf {σ : L2.St} {H : Hp} {Q : Bool → Hp → Prop} (h : upT K G0 W (tOf za) σ H Q) : tB (up K G0 W za) σ H Q := by
  obtain ⟨z, M, G, Qz, Ez, s, xl, t, k⟩ := h
  refine ⟨z, M, G, _, Ez, s, xl, t, fun x M1 G1 H1 v e1 s1 r1 q1 => ?_⟩
  split at q1
  · cases r1
    exact ⟨_, rfl, k _ _ _ _ e1 s1 q1⟩
  · exact q1.elim
theorem z_tOf (ha : PE X a (up X.K G0 W za)) (he : ∀ whole, isTrue a X.env whole = (do let v ← whole; standAt a.pos; holding [v] (truthy v))) : PT X a (upT X.K G0 W (tOf za)) :=
  PT.imp (pt_val ha he) fun _ _ _ h => up_tOf h
theorem z_tCmp {op : CmpOp} {oz : ZR2} (ho : OpR X (compareOp op) (upR X.K G0 oz)) (ha : PE X a (up X.K G0 W za)) (hb : PE X b (up X.K G0 W zb)) (hm : behindInMarks op b = false) : PT X (.Compare a [op] [b] pos) (upT X.K G0 W (tOf (z2 oz za zb))) :=
  PT.imp (pt_cmpR ho ha hb hm) fun σ H Q h => by
    obtain ⟨z, M, G, Qz, Ez, s, xl, t, k⟩ := h
    refine ⟨z, M, G, _, Ez, s, xl, t, fun x M1 G1 H1 v e1 s1 r1 q1 => ⟨z, M1, G1, _, Ez, s1, xl, q1, fun y M2 G2 H2 u e2 s2 r2 q2 =>
      ⟨z, M2, G2, σ, x, y, _, s2, r1.mono e2, r2, q2, fun r M' G' H' w e3 s3 r3 q3 => ?_⟩⟩⟩
    split at q3
    · cases r3
      exact ⟨_, rfl, k _ _ _ _ (e1.trans (e2.trans e3)) s3 q3⟩
    · exact q3.elim
theorem z_tChain {op op' : CmpOp} {o o' : ZR2} (ho : OpR X (compareOp op) (upR X.K G0 o)) (ho' : OpR X (compareOp op') (upR X.K G0 o')) (ha : PE X a (up X.K G0 W za)) (hb : PE X b (up X.K G0 W zb)) (hc : PE X c (up X.K G0 W zc))
    (hm : lastMarks [op, op'] [b, c] = false) : PT X (.Compare a [op, op'] [b, c] pos) (upT X.K G0 W (tOf (zChain o o' za zb zc))) :=
  PT.imp (pt_chain ho ho' ha hb hc hm) fun σ H Q h => by
    obtain ⟨z, M, G, Qz, Ez, s, xl, t, k⟩ := h
    refine ⟨z, M, G, _, Ez, s, xl, t, fun x M1 G1 H1 v e1 s1 r1 q1 => ⟨z, M1, G1, _, Ez, s1, xl, q1, fun y M2 G2 H2 u e2 s2 r2 q2 =>
      ⟨z, M2, G2, σ, x, y, _, s2, r1.mono e2, r2, q2, fun r M3 G3 H3 w e3 s3 r3 q3 => ?_⟩⟩⟩
    split at q3
    · cases r3
      refine ⟨true, rfl, iteT ⟨z, M3, G3, _, Ez, s3, xl, q3, fun w' M4 G4 H4 u' e4 s4 r4 q4 => ⟨z, M4, G4, σ, y, w', _, s4, r2.mono (e3.trans e4), r4, q4, fun r M' G' H' w e5 s5 r5 q5 => ?_⟩⟩⟩
      split at q5
      · cases r5
        exact ⟨_, rfl, k _ _ _ _ (e1.trans (e2.trans (e3.trans (e4.trans e5)))) s5 q5⟩
      · exact q5.elim
    · cases r3
      exact ⟨false, rfl, iteF ⟨_, rfl, k _ _ _ _ (e1.trans (e2.trans e3)) s3 q3⟩⟩
    · exact q3.elim
def zNotT (ta : ZTT) : ZTT := fun E z M Q => ta E z M fun c M1 => Q (!c) M1
theorem z_notT {ta : ZTT} (ha : PT X a (upT X.K G0 W ta)) : PT X (.UnaryOp .Not a pos) (upT X.K G0 W (zNotT ta)) :=
  PT.imp (pt_not ha) fun σ H Q h => by
    obtain ⟨z, M, G, Qz, Ez, s, xl, t, k⟩ := h
    exact ⟨z, M, G, _, Ez, s, xl, t, fun c M1 G1 H1 e1 s1 q1 => k _ _ _ _ e1 s1 q1⟩
def zBoT (o : BoolOp) (ta tb : ZTT) : ZTT := fun E z M Q => ta E z M fun c M1 => match o with
  | .And => if c = true then tb E z M1 Q else Q false M1
  | .Or => if c = true then Q true M1 else tb E z M1 Q
theorem z_boT1 {o : BoolOp} {ta : ZTT} (ha : PT X a (upT X.K G0 W ta)) : PW X (.BoolOp o [a] pos) (upT X.K G0 W ta) := by
  cases o with
  | And => exact pw_and1 ha
  | Or => exact pw_or1 ha
theorem z_boT {o : BoolOp} {ta tb : ZTT} {rest : List Expr} (ha : PT X a (upT X.K G0 W ta)) (hb : PW X (.BoolOp o (b :: rest) pos) (upT X.K G0 W tb)) : PW X (.BoolOp o (a :: b :: rest) pos) (upT X.K G0 W (zBoT o ta tb)) := by
  cases o with
  | And =>
    refine PW.imp (pw_and ha hb) fun σ H Q h => ?_
    obtain ⟨z, M, G, Qz, Ez, s, xl, t, k⟩ := h
    refine ⟨z, M, G, _, Ez, s, xl, t, fun c M1 G1 H1 e1 s1 q1 => ?_⟩
    cases c with
    | true => exact iteT ⟨z, M1, G1, _, Ez, s1, xl, q1, fun c M' G' H' e2 s2 q2 => k _ _ _ _ (e1.trans e2) s2 q2⟩
    | false => exact iteF (k _ _ _ _ e1 s1 q1)
  | Or =>
    refine PW.imp (pw_or ha hb) fun σ H Q h => ?_
    obtain ⟨z, M, G, Qz, Ez, s, xl, t, k⟩ := h
    refine ⟨z, M, G, _, Ez, s, xl, t, fun c M1 G1 H1 e1 s1 q1 => ?_⟩
    cases c with
    | false => exact iteF ⟨z, M1, G1, _, Ez, s1, xl, q1, fun c M' G' H' e2 s2 q2 => k _ _ _ _ (e1.trans e2) s2 q2⟩
    | true => exact iteT (k _ _ _ _ e1 s1 q1)
/-- as values -/
def zBoV (o : BoolOp) (za zb : ZTE) : ZTE := fun E z M Q => za E z M fun x M1 => match x with
  | .bl c => (match o with
    | .And => if c = true then zb E z M1 Q else Q (.bl false) M1
    | .Or => if c = true then Q (.bl true) M1 else zb E z M1 Q)
  | _ => False
theorem z_boV1 {o : BoolOp} (ha : PE X a (up X.K G0 W za)) : PE X (.BoolOp o [a] pos) (up X.K G0 W za) := pe_one ha
theorem z_boV {o : BoolOp} {rest : List Expr} (ha : PE X a (up X.K G0 W za)) (hb : PE X (.BoolOp o (b :: rest) pos) (up X.K G0 W zb)) : PE X (.BoolOp o (a :: b :: rest) pos) (up X.K G0 W (zBoV o za zb)) := by
  cases o with
  | And =>
    refine PE.imp (pe_and ha hb) fun σ H Q h => ?_
    obtain ⟨z, M, G, Qz, Ez, s, xl, t, k⟩ := h
    refine ⟨z, M, G, _, Ez, s, xl, t, fun x M1 G1 H1 v e1 s1 r1 q1 => ?_⟩
    dsimp only at q1
    split at q1
    · rename_i c
      cases r1
      refine ⟨c, rfl, ?_⟩
      cases c with
      | true => exact iteT ⟨z, M1, G1, _, Ez, s1, xl, q1, fun x M' G' H' v e2 s2 r2 q2 => k _ _ _ _ _ (e1.trans e2) s2 r2 q2⟩
      | false => exact iteF (k _ _ _ _ _ e1 s1 (.bl _) q1)
    · exact q1.elim
  | Or =>
    refine PE.imp (pe_or ha hb) fun σ H Q h => ?_
    obtain ⟨z, M, G, Qz, Ez, s, xl, t, k⟩ := h
    refine ⟨z, M, G, _, Ez, s, xl, t, fun x M1 G1 H1 v e1 s1 r1 q1 => ?_⟩
    dsimp only at q1
    split at q1
    · rename_i c
      cases r1
      refine ⟨c, rfl, ?_⟩
      cases c with
      | false => exact iteF ⟨z, M1, G1, _, Ez, s1, xl, q1, fun x M' G' H' v e2 s2 r2 q2 => k _ _ _ _ _ (e1.trans e2) s2 r2 q2⟩
      | true => exact iteT (k _ _ _ _ _ e1 s1 (.bl _) q1)
    · exact q1.elim
def zIf (t : ZTT) (za zb : ZTE) : ZTE := fun E z M Q => t E z M fun c M1 => if c = true then za E z M1 Q else zb E z M1 Q
theorem z_if {t : ZTT} (hc : PT X c (upT X.K G0 W t)) (ha : PE X a (up X.K G0 W za)) (hb : PE X b (up X.K G0 W zb)) : PE X (.IfExp c a b pos) (up X.K G0 W (zIf t za zb)) :=
  PE.imp (pe_ifExp hc ha hb) fun σ H Q h => by
    obtain ⟨z, M, G, Qz, Ez, s, xl, t, k⟩ := h
    refine ⟨z, M, G, _, Ez, s, xl, t, fun c M1 G1 H1 e1 s1 q1 => ?_⟩
    cases c with
    | true => exact iteT ⟨z, M1, G1, _, Ez, s1, xl, q1, fun x M' G' H' v e2 s2 r2 q2 => k _ _ _ _ _ (e1.trans e2) s2 r2 q2⟩
    | false => exact iteF ⟨z, M1, G1, _, Ez, s1, xl, q1, fun x M' G' H' v e2 s2 r2 q2 => k _ _ _ _ _ (e1.trans e2) s2 r2 q2⟩

/-! ### lists of expressions, displays -/
def zNil : ZTA := fun _ _ M Q => Q [] M
def zCons (za : ZTE) (zr : ZTA) : ZTA := fun E z M Q => za E z M fun x M1 => zr E z M1 fun xs M2 => Q (x :: xs) M2
theorem z_nil : PA X [] (upA X.K G0 W zNil) :=
  PA.imp pa_nil fun σ H Q h => by
    obtain ⟨z, M, G, Qz, Ez, s, xl, t, k⟩ := h
    exact k _ _ _ _ _ (Same.refl _) s .nil t
theorem z_cons {zr : ZTA} (ha : PE X e (up X.K G0 W za)) (hr : PA X es (upA X.K G0 W zr)) (hs : starEach (e :: es) X.env = (false, eval e X.env) :: starEach es X.env) : PA X (e :: es) (upA X.K G0 W (zCons za zr)) :=
  PA.imp (pa_cons ha hr hs) fun σ H Q h => by
    obtain ⟨z, M, G, Qz, Ez, s, xl, t, k⟩ := h
    exact ⟨z, M, G, _, Ez, s, xl, t, fun x M1 G1 H1 v e1 s1 r1 q1 => ⟨z, M1, G1, _, Ez, s1, xl, q1, fun xs M2 G2 H2 vs e2 s2 r2 q2 =>
      k _ _ _ _ _ (e1.trans e2) s2 (.cons (r1.mono e2) r2) q2⟩⟩
def zTup (zs : ZTA) : ZTE := fun E z M Q => zs E z M fun xs M1 => xs.length ≤ sizeLine ∧ Q (.tup xs) M1
theorem z_tup {zs : ZTA} {k : Nat} (h : PA X es (upA X.K G0 W zs)) : PE X (.Tuple es k pos) (up X.K G0 W (zTup zs)) :=
  PE.imp (pe_tup h) fun σ H Q h => by
    obtain ⟨z, M, G, Qz, Ez, s, xl, t, k⟩ := h
    refine ⟨z, M, G, _, Ez, s, xl, t, fun xs M1 G1 H1 vs e1 s1 r1 q1 => ⟨by rw [← r1.length]; exact q1.1, fun p hp => ?_⟩⟩
    obtain ⟨s', e⟩ := s1.froz (o := .tup vs) hp
    exact k _ _ _ _ _ (e1.trans e) s' (.tup upd_same (r1.mono e) q1.1) q1.2

/-! ### new lists: kept as they are, or watched -/
theorem upL_fz {zl : ZTA} (h : PE X e (upL X.K G0 W zl)) : PE X e (up X.K G0 W fun E z M Q => zl E z M fun xs M1 => xs.length ≤ sizeLine ∧ Q (.lst xs) M1) :=
  PE.imp h fun σ H Q h => by
    obtain ⟨z, M, G, Qz, Ez, s, xl, t, k⟩ := h
    refine ⟨z, M, G, _, Ez, s, xl, t, fun xs M1 G1 H1 p vs e1 s1 hp r1 q1 => ?_⟩
    obtain ⟨s', e⟩ := s1.froz (o := .lst vs) hp
    exact k _ _ _ _ _ (e1.trans e) s' (.lst upd_same (r1.mono e) q1.1) q1.2
theorem upL_mt {zl : ZTA} (h : PE X e (upL X.K G0 W zl)) : PE X e (up X.K G0 W fun E z M Q => zl E z M fun xs M1 => xs.length ≤ sizeLine ∧ ∀ p, M1 p = none → Q (.ref p) (mset M1 p (.lst xs))) :=
  PE.imp h fun σ H Q h => by
    obtain ⟨z, M, G, Qz, Ez, s, xl, t, k⟩ := h
    refine ⟨z, M, G, _, Ez, s, xl, t, fun xs M1 G1 H1 p vs e1 s1 hp r1 q1 => ?_⟩
    exact k _ _ _ _ _ e1 (s1.news hp (.lst r1 q1.1)) (.ref p) (q1.2 p (s1.nofree hp))
theorem z_lst {zs : ZTA} (h : PA X es (upA X.K G0 W zs)) : PE X (.List es pos) (upL X.K G0 W fun E z M Q => zs E z M fun xs M1 => xs.length ≤ sizeLine ∧ Q xs M1) :=
  PE.imp (pe_lst h) fun σ H Q h => by
    obtain ⟨z, M, G, Qz, Ez, s, xl, t, k⟩ := h
    exact ⟨z, M, G, _, Ez, s, xl, t, fun xs M1 G1 H1 vs e1 s1 r1 q1 => ⟨by rw [← r1.length]; exact q1.1, fun p hp => k _ _ _ _ _ _ e1 s1 hp r1 q1.2⟩⟩
end
end Zz
end
section
namespace Zz
open PySem PySem.Spec PyProof.Rows L2

/-! ### items, parts -/
section
variable {X : Cx} {G0 : Hp} {W : WX} {e a b c : Expr} {es : List Expr} {za zb zc : ZTE} {pos : Pos} {K : Frag}
theorem ix_dict (hu : X.A.units + 1 < cLine) : IxR X (fun x y H Q => ∃ a v, x = .ref a ∧ DGet H a y (some v) ∧ Q v H) := by
  intro value slice pins s σ H x y v u Q I rx ry h hs
  obtain ⟨a, w, rfl, g, q⟩ := h
  cases rx
  exact tail_any (dict_typeIs I g) PySem.F.slot_dict_getitem.lookup (d_getItem hu I g ry fun w' s3 I3 rw' => ⟨w, H, I3, rw', q⟩) hs
def atP {α : Type} (xs : List α) (i : Int) (k : α → Prop) : Prop := match atI xs i with
  | some y => k y
  | none => False
def zIx : ZR2 := fun x i M Q => match x, i with
  | .str s, .int n => atP s.cps.toList n fun c => Q (.str ⟨#[c]⟩) M
  | x, i => if isDct M x = true then ∃ a, x = .ref a ∧ dGet M a i fun o => ∃ v, o = some v ∧ Q v M
    else ∃ xs n, asS M x = some xs ∧ i = .int n ∧ atP xs n fun y => Q y M
theorem atI_rep {K : Frag} {G : Hp} {xs : List PV} {vs : List V} {i : Int} {x : PV} (r : RepA K G xs vs) (h : atI xs i = some x) : ∃ v, atI vs i = some v ∧ Rep K G x v := by
  unfold atI at h ⊢
  rw [← r.length]
  cases e : ixN xs.length i with
  | none => rw [e] at h; cases h
  | some j =>
    rw [e] at h
    exact r.get h
theorem z_ix_ok (hu : X.A.units + 1 < cLine) : IxR X (upR X.K G0 zIx) := by
  intro value slice pins s σ' H v u vv uu Q I rv ru h hsub
  obtain ⟨z, M, G, σ, x, y, Qz, hs, rx, ry, h, k⟩ := h
  unfold zIx at h
  split at h
  · cases rx with
    | str _ hz =>
    cases ry
    unfold atP at h
    split at h
    · rename_i c e
      exact ix_str value slice pins s σ' H _ _ vv uu Q I rv ru ⟨_, _, c, rfl, rfl, hz, e, k _ M G H _ (Same.refl _) hs (.str _ (by show 1 ≤ sizeLine; decide)) h⟩ hsub
    · exact h.elim
  · split at h
    · obtain ⟨a, rfl, h⟩ := h
      cases rx
      obtain ⟨o, q, w⟩ := dGet_ok hs ry h
      obtain ⟨p, rfl, q⟩ := q
      rcases w with ⟨e, _⟩ | ⟨p', v', e, g, rp⟩
      · cases e
      · cases e
        exact ix_dict hu value slice pins s σ' H _ _ vv uu Q I rv ru ⟨a, v', rfl, g, k _ M G H _ (Same.refl _) hs (rp) q⟩ hsub
    · obtain ⟨xs, n, e1, rfl, h⟩ := h
      unfold atP at h
      split at h
      · rename_i y e
        cases ry
        obtain ⟨a, vs, rfl, a1, a2, _⟩ := asS_ok hs rx e1
        obtain ⟨w, e2, r2⟩ := atI_rep a2 e
        rcases a1 with a1 | a1
        · exact ix_list value slice pins s σ' H _ _ vv uu Q I rv ru ⟨_, vs, n, w, rfl, rfl, a1, e2, k _ M G H _ (Same.refl _) hs r2 h⟩ hsub
        · exact ix_tup value slice pins s σ' H _ _ vv uu Q I rv ru ⟨_, vs, n, w, rfl, rfl, a1, e2, k _ M G H _ (Same.refl _) hs r2 h⟩ hsub
      · exact h.elim
theorem z_ix (hu : X.A.units + 1 < cLine) (ha : PE X a (up X.K G0 W za)) (hb : PE X b (up X.K G0 W zb)) (hs : PlainIx b) : PE X (.Subscript a b pos) (up X.K G0 W (z2 zIx za zb)) :=
  PE.imp (pe_ix (z_ix_ok hu) ha hb hs) fun _ _ _ => up_2

abbrev ZTO := ZE → ZSt → Mem → (Option Int → Mem → Prop) → Prop
def upO (K : Frag) (G0 : Hp) (W : WX) (t : ZTO) : TO := fun σ H Q => ∃ z M G Qz Ez, ZS K G0 z M G σ H ∧ XLe K G0 W Ez ∧ t Ez z M Qz ∧
  ∀ o M' G' H', Same G G' → ZS K G0 z M' G' σ H' → Qz o M' → Q o H'
theorem PO.imp {X : Cx} {e : Option Expr} {t t' : TO} (h : PO X e t) (w : ∀ σ H Q, t' σ H Q → t σ H Q) : PO X e t' := ⟨fun pins s σ H Q I q => h.run pins s σ H Q I (w σ H Q q)⟩
def zNoPart : ZTO := fun _ _ M Q => Q none M
def zPart (za : ZTE) : ZTO := fun E z M Q => za E z M fun x M1 => match x with
  | .int i => Q (some i) M1
  | _ => False
theorem z_noPart : PO X none (upO X.K G0 W zNoPart) := PO.imp po_none fun σ H Q h => by
  obtain ⟨z, M, G, Qz, Ez, s, xl, t, k⟩ := h
  exact k _ _ _ _ (Same.refl _) s t
theorem z_part (ha : PE X a (up X.K G0 W za)) : PO X (some a) (upO X.K G0 W (zPart za)) := PO.imp (po_some ha) fun σ H Q h => by
  obtain ⟨z, M, G, Qz, Ez, s, xl, t, k⟩ := h
  refine ⟨z, M, G, _, Ez, s, xl, t, fun x M1 G1 H1 v e1 s1 r1 q1 => ?_⟩
  split at q1
  · cases r1
    exact ⟨_, rfl, k _ _ _ _ e1 s1 q1⟩
  · exact q1.elim
def cut {α : Type} (xs : List α) (lo hi : Option Int) : List α := (xs.drop (HT.sIx xs.length 0 lo)).take (HT.sIx xs.length xs.length hi - HT.sIx xs.length 0 lo)
theorem cut_length {α : Type} (xs : List α) (lo hi : Option Int) : (cut xs lo hi).length ≤ xs.length := by
  unfold cut
  rw [List.length_take, List.length_drop]
  omega
theorem RepA.cut {K : Frag} {G : Hp} {xs : List PV} {vs : List V} (r : RepA K G xs vs) (lo hi : Option Int) : RepA K G (Zz.cut xs lo hi) (cutV vs lo hi) := by
  unfold Zz.cut cutV
  rw [r.length]
  exact (r.drop _).take _
def zSl (zx : ZTE) (zl zh : ZTO) : ZTE := fun E z M Q => zx E z M fun x M1 => zl E z M1 fun lo M2 => zh E z M2 fun hi M3 => match x with
  | .tup xs => Q (.tup (cut xs lo hi)) M3
  | .str s => Q (.str (cutS s lo hi)) M3
  | x => ∃ xs, asL M3 x = some xs ∧ Q (.lst (cut xs lo hi)) M3
def upSl (K : Frag) (G0 : Hp) : V → Option Int → Option Int → Hp → VK → Prop := fun v lo hi H Q => ∃ (z : ZSt) (M : Mem) (G : Hp) (σ : L2.St) (x : PV) (Qz : ZK), ZS K G0 z M G σ H ∧ Rep K G x v ∧
  (match x with
    | .tup xs => Qz (PV.tup (cut xs lo hi)) M
    | .str s => Qz (PV.str (cutS s lo hi)) M
    | x => ∃ xs, asL M x = some xs ∧ Qz (PV.lst (cut xs lo hi)) M) ∧
  ∀ r M' G' H' w, Same G G' → ZS K G0 z M' G' σ H' → Rep K G' r w → Qz r M' → Q w H'
theorem sl_ok : SlR X (upSl X.K G0) := by
  intro pins s σ' H v vv vl vu lo hi sl Q I rv hs pl pu h
  obtain ⟨z, M, G, σ, x, Qz, s0, rx, h, k⟩ := h
  split at h
  · rename_i xs
    obtain ⟨a, vs, rfl, a1, a2, a3⟩ := asT_ok s0 rx rfl
    refine sl_tupA pins s σ' H _ vv vl vu lo hi sl Q I rv hs pl pu ⟨a, vs, rfl, SqT.of a1, fun w => ?_, fun w p hp => ?_⟩
    · have e : cut xs lo hi = xs := by
        unfold cut
        rw [← a2.length] at w
        rw [w.1, w.2]
        simp
      rw [e] at h
      exact k _ M G H _ (Same.refl _) s0 rx h
    · obtain ⟨s', e⟩ := s0.froz (o := .tup (cutV vs lo hi)) hp
      exact k _ M _ _ _ e s' (.tup upd_same ((a2.cut lo hi).mono e) (Nat.le_trans (cut_length _ _ _) a3)) h
  · cases rx with
    | str _ hz =>
    exact sl_str pins s σ' H _ vv vl vu lo hi sl Q I rv hs pl pu ⟨_, rfl, hz, k _ M G H _ (Same.refl _) s0 (.str _ (Nat.le_trans (cutS_length _ _ _) hz)) h⟩
  · obtain ⟨xs, e, q⟩ := h
    obtain ⟨a, vs, rfl, a1, a2, a3⟩ := asL_ok s0 rx e
    refine sl_list pins s σ' H _ vv vl vu lo hi sl Q I rv hs pl pu ⟨a, vs, rfl, a1, fun p hp => ?_⟩
    obtain ⟨s', e⟩ := s0.froz (o := .lst (cutV vs lo hi)) hp
    exact k _ M _ _ _ e s' (.lst upd_same ((a2.cut lo hi).mono e) (Nat.le_trans (cut_length _ _ _) a3)) q
theorem z_sl {lo hi : Option Expr} {zl zh : ZTO} {p2 : Pos} (he : PE X e (up X.K G0 W za)) (hl : PO X lo (upO X.K G0 W zl)) (hh : PO X hi (upO X.K G0 W zh)) : PE X (.Subscript e (.Slice lo hi none p2) pos) (up X.K G0 W (zSl za zl zh)) :=
  PE.imp (pe_slice sl_ok he hl hh) fun σ H Q h => by
    obtain ⟨z, M, G, Qz, Ez, s, xl, t, k⟩ := h
    exact ⟨z, M, G, _, Ez, s, xl, t, fun x M1 G1 H1 v e1 s1 r1 q1 => ⟨z, M1, G1, _, Ez, s1, xl, q1, fun lo M2 G2 H2 e2 s2 q2 => ⟨z, M2, G2, _, Ez, s2, xl, q2, fun hi M3 G3 H3 e3 s3 q3 =>
      ⟨z, M3, G3, σ, x, Qz, s3, r1.mono (e2.trans e3), q3, fun r M' G' H' w e4 s4 r4 q4 => k _ _ _ _ _ (e1.trans (e2.trans (e3.trans e4))) s4 r4 q4⟩⟩⟩⟩
/-- a new list, watched -/
def zSlL (zx : ZTE) (zl zh : ZTO) : ZTA := fun E z M Q => zx E z M fun x M1 => zl E z M1 fun lo M2 => zh E z M2 fun hi M3 => ∃ xs, asL M3 x = some xs ∧ (cut xs lo hi).length ≤ sizeLine ∧ Q (cut xs lo hi) M3
theorem z_slL {lo hi : Option Expr} {zl zh : ZTO} {p2 : Pos} (he : PE X e (up X.K G0 W za)) (hl : PO X lo (upO X.K G0 W zl)) (hh : PO X hi (upO X.K G0 W zh)) : PE X (.Subscript e (.Slice lo hi none p2) pos) (upL X.K G0 W (zSlL za zl zh)) :=
  PE.imp (pe_slice sl_list he hl hh) fun σ H Q h => by
    obtain ⟨z, M, G, Qz, Ez, s, xl, t, k⟩ := h
    refine ⟨z, M, G, _, Ez, s, xl, t, fun x M1 G1 H1 v e1 s1 r1 q1 => ⟨z, M1, G1, _, Ez, s1, xl, q1, fun lo M2 G2 H2 e2 s2 q2 => ⟨z, M2, G2, _, Ez, s2, xl, q2, fun hi M3 G3 H3 e3 s3 q3 => ?_⟩⟩⟩
    obtain ⟨xs, e, hz, q⟩ := q3
    obtain ⟨a, vs, rfl, a1, a2, a3⟩ := asL_ok s3 (r1.mono (e2.trans e3)) e
    exact ⟨a, vs, rfl, a1, fun p hp => k _ _ _ _ _ _ (e1.trans (e2.trans e3)) s3 hp (a2.cut lo hi) q⟩

/-! ### built-ins, called -/
abbrev ZRA := List PV → Mem → ZK → Prop
def upC (K : Frag) (G0 : Hp) (oz : ZRA) : List V → Hp → VK → Prop := fun vs H Q => ∃ z M G σ xs Qz, ZS K G0 z M G σ H ∧ RepA K G xs vs ∧ oz xs M Qz ∧
  ∀ r M' G' H' w, Same G G' → ZS K G0 z M' G' σ H' → Rep K G' r w → Qz r M' → Q w H'
def upCL (K : Frag) (G0 : Hp) (oz : List PV → Mem → (List PV → Mem → Prop) → Prop) : List V → Hp → VK → Prop := fun vs H Q => ∃ z M G σ xs Qz, ZS K G0 z M G σ H ∧ RepA K G xs vs ∧ oz xs M Qz ∧
  ∀ ys M' G' H' p ws, Same G G' → ZS K G0 z M' G' σ H' → H' p = none → RepA K G' ys ws → Qz ys M' → Q (.ref p) (upd H' p (.lst ws))
def zCB (oz : ZRA) (zs : ZTA) : ZTE := fun E z M Q => zs E z M fun xs M1 => oz xs M1 Q
def zCBL (oz : List PV → Mem → (List PV → Mem → Prop) → Prop) (zs : ZTA) : ZTA := fun E z M Q => zs E z M fun xs M1 => oz xs M1 Q
theorem up_cb {oz : ZRA} {zs : ZTA} {σ : L2.St} {H : Hp} {Q : VK} (h : up K G0 W (zCB oz zs) σ H Q) : tCB (upC K G0 oz) (upA K G0 W zs) σ H Q := by
  obtain ⟨z, M, G, Qz, Ez, s, xl, t, k⟩ := h
  exact ⟨z, M, G, _, Ez, s, xl, t, fun xs M1 G1 H1 vs e1 s1 r1 q1 => ⟨z, M1, G1, σ, xs, Qz, s1, r1, q1, fun r M' G' H' w e s' r' q => k _ _ _ _ _ (e1.trans e) s' r' q⟩⟩
theorem up_cbl {oz : List PV → Mem → (List PV → Mem → Prop) → Prop} {zs : ZTA} {σ : L2.St} {H : Hp} {Q : VK} (h : upL K G0 W (zCBL oz zs) σ H Q) : tCB (upCL K G0 oz) (upA K G0 W zs) σ H Q := by
  obtain ⟨z, M, G, Qz, Ez, s, xl, t, k⟩ := h
  exact ⟨z, M, G, _, Ez, s, xl, t, fun xs M1 G1 H1 vs e1 s1 r1 q1 => ⟨z, M1, G1, σ, xs, Qz, s1, r1, q1, fun ys M' G' H' p ws e s' hp r' q => k _ _ _ _ _ _ (e1.trans e) s' hp r' q⟩⟩

def zLen : ZRA := fun xs M Q => match xs with
  | [.str s] => Q (.int s.length) M
  | [x] => ∃ ys, asS M x = some ys ∧ Q (.int ys.length) M
  | _ => False
theorem len_ok : CallR X (.builtin "len") (upC X.K G0 zLen) := by
  intro pins s σ' H vs us Q I r h
  obtain ⟨z, M, G, σ, xs, Qz, s0, rx, h, k⟩ := h
  unfold zLen at h
  split at h
  · cases rx with
    | cons r1 r2 =>
      cases r2
      cases r1 with
      | str _ hz => exact call_len_str pins s σ' H _ us Q I r ⟨_, rfl, hz, k _ M G H _ (Same.refl _) s0 (.int _) h⟩
  · obtain ⟨ys, e, q⟩ := h
    cases rx with
    | cons r1 r2 =>
      cases r2
      obtain ⟨a, ws, rfl, a1, a2, a3⟩ := asS_ok s0 r1 e
      exact call_len_seq pins s σ' H _ us Q I r ⟨a, ws, rfl, a1, k _ M G H _ (Same.refl _) s0 (by rw [a2.length]; exact .int _) q⟩
  · exact h.elim
def zAllAny (all : Bool) : ZRA := fun xs M Q => match xs with
  | [x] => ∃ bs : List Bool, asL M x = some (bs.map .bl) ∧ Q (.bl (if all then bs.all id else bs.any id)) M
  | _ => False
theorem RepA.bls {K : Frag} {G : Hp} : ∀ {ns : List Bool} {vs : List V}, RepA K G (ns.map .bl) vs → vs = ns.map V.bl
  | [], _, .nil => rfl
  | n :: ns, _, .cons h r => by cases h; rw [r.bls]; rfl
theorem RepA.strs {K : Frag} {G : Hp} : ∀ {ns : List Str} {vs : List V}, RepA K G (ns.map .str) vs → vs = ns.map V.str
  | [], _, .nil => rfl
  | n :: ns, _, .cons h r => by cases h; rw [r.strs]; rfl
theorem all_ok (hc : X.calm = true) : CallR X (.builtin "all") (upC X.K G0 (zAllAny true)) := by
  intro pins s σ' H vs us Q I r h
  obtain ⟨z, M, G, σ, xs, Qz, s0, rx, h, k⟩ := h
  unfold zAllAny at h
  split at h
  · obtain ⟨bs, e, q⟩ := h
    cases rx with
    | cons r1 r2 =>
      cases r2
      obtain ⟨a, ws, rfl, a1, a2, a3⟩ := asL_ok s0 r1 e
      rw [a2.bls] at a1
      exact cr_all hc pins s σ' H _ us Q I r ⟨a, bs, rfl, a1, k _ M G H _ (Same.refl _) s0 (.bl _) q⟩
  · exact h.elim
theorem any_ok' (hc : X.calm = true) : CallR X (.builtin "any") (upC X.K G0 (zAllAny false)) := by
  intro pins s σ' H vs us Q I r h
  obtain ⟨z, M, G, σ, xs, Qz, s0, rx, h, k⟩ := h
  unfold zAllAny at h
  split at h
  · obtain ⟨bs, e, q⟩ := h
    cases rx with
    | cons r1 r2 =>
      cases r2
      obtain ⟨a, ws, rfl, a1, a2, a3⟩ := asL_ok s0 r1 e
      rw [a2.bls] at a1
      exact cr_any hc pins s σ' H _ us Q I r ⟨a, bs, rfl, a1, k _ M G H _ (Same.refl _) s0 (.bl _) q⟩
  · exact h.elim
def zInt : ZRA := fun xs M Q => match xs with
  | [.int i] => Q (.int i) M
  | [.bl b] => Q (.int (if b then 1 else 0)) M
  | [.str s] => ∃ n, PySem.intText? s = some n ∧ s.length ≤ 640 ∧ Q (.int n) M
  | _ => False
theorem int_ok : CallR X (.type "int") (upC X.K G0 zInt) := by
  intro pins s σ' H vs us Q I r h
  obtain ⟨z, M, G, σ, xs, Qz, s0, rx, h, k⟩ := h
  unfold zInt at h
  split at h
  · cases rx with
    | cons r1 r2 =>
      cases r2; cases r1
      exact call_int1 pins s σ' H _ us Q I r (.inl ⟨_, rfl, k _ M G H _ (Same.refl _) s0 (.int _) h⟩)
  · cases rx with
    | cons r1 r2 =>
      cases r2; cases r1
      exact call_int1 pins s σ' H _ us Q I r (.inr ⟨_, rfl, k _ M G H _ (Same.refl _) s0 (.int _) h⟩)
  · obtain ⟨n, e1, e2, q⟩ := h
    cases rx with
    | cons r1 r2 =>
      cases r2; cases r1
      exact call_int_str pins s σ' H _ us Q I r ⟨_, n, rfl, e1, e2, k _ M G H _ (Same.refl _) s0 (.int _) q⟩
  · exact h.elim
def zTuple : ZRA := fun xs M Q => match xs with
  | [.tup ys] => Q (.tup ys) M
  | [x] => ∃ ys, asL M x = some ys ∧ Q (.tup ys) M
  | _ => False
theorem tuple_ok : CallR X (.type "tuple") (upC X.K G0 zTuple) := by
  intro pins s σ' H vs us Q I r h
  obtain ⟨z, M, G, σ, xs, Qz, s0, rx, h, k⟩ := h
  unfold zTuple at h
  split at h
  · cases rx with
    | cons r1 r2 =>
      cases r2
      obtain ⟨a, ws, rfl, a1, a2, a3⟩ := asT_ok s0 r1 rfl
      exact call_tuple_of pins s σ' H _ us Q I r ⟨a, ws, rfl, .inr ⟨SqT.of a1, k _ M G H _ (Same.refl _) s0 r1 h⟩⟩
  · obtain ⟨ys, e, q⟩ := h
    cases rx with
    | cons r1 r2 =>
      cases r2
      obtain ⟨a, ws, rfl, a1, a2, a3⟩ := asL_ok s0 r1 e
      refine call_tuple_of pins s σ' H _ us Q I r ⟨a, ws, rfl, .inl ⟨a1, fun p hp => ?_⟩⟩
      obtain ⟨s', e⟩ := s0.froz (o := .tup ws) hp
      exact k _ M _ _ _ e s' (.tup upd_same (a2.mono e) a3) q
  · exact h.elim
def zMax : ZRA := fun xs M Q => match xs with
  | [.int i, .int j] => Q (.int (if j > i then j else i)) M
  | [x] => ∃ ns : List Int, asL M x = some (ns.map .int) ∧ 0 < ns.length ∧ ∀ m, m ∈ ns → (∀ y, y ∈ ns → y ≤ m) → Q (.int m) M
  | _ => False
theorem max_ok (hc : X.calm = true) : CallR X (.builtin "max") (upC X.K G0 zMax) := by
  intro pins s σ' H vs us Q I r h
  obtain ⟨z, M, G, σ, xs, Qz, s0, rx, h, k⟩ := h
  unfold zMax at h
  split at h
  · cases rx with
    | cons r1 r2 =>
      cases r2 with
      | cons r2 r3 =>
        cases r3; cases r1; cases r2
        exact call_max2 hc pins s σ' H _ us Q I r ⟨_, _, rfl, k _ M G H _ (Same.refl _) s0 (.int _) h⟩
  · obtain ⟨ns, e, hl, q⟩ := h
    cases rx with
    | cons r1 r2 =>
      cases r2
      obtain ⟨a, ws, rfl, a1, a2, a3⟩ := asL_ok s0 r1 e
      rw [a2.ints] at a1
      exact cr_max hc pins s σ' H _ us Q I r ⟨a, ns, rfl, a1, hl, fun m h1 h2 => k _ M G H _ (Same.refl _) s0 (.int _) (q m h1 h2)⟩
  · exact h.elim
def zMin : ZRA := fun xs M Q => match xs with
  | [.int i, .int j] => Q (.int (if j < i then j else i)) M
  | [x] => ∃ ns : List Int, asL M x = some (ns.map .int) ∧ 0 < ns.length ∧ ∀ m, m ∈ ns → (∀ y, y ∈ ns → m ≤ y) → Q (.int m) M
  | _ => False
theorem min_ok (hc : X.calm = true) : CallR X (.builtin "min") (upC X.K G0 zMin) := by
  intro pins s σ' H vs us Q I r h
  obtain ⟨z, M, G, σ, xs, Qz, s0, rx, h, k⟩ := h
  unfold zMin at h
  split at h
  · cases rx with
    | cons r1 r2 =>
      cases r2 with
      | cons r2 r3 =>
        cases r3; cases r1; cases r2
        exact call_min2 hc pins s σ' H _ us Q I r ⟨_, _, rfl, k _ M G H _ (Same.refl _) s0 (.int _) h⟩
  · obtain ⟨ns, e, hl, q⟩ := h
    cases rx with
    | cons r1 r2 =>
      cases r2
      obtain ⟨a, ws, rfl, a1, a2, a3⟩ := asL_ok s0 r1 e
      rw [a2.ints] at a1
      exact cr_min hc pins s σ' H _ us Q I r ⟨a, ns, rfl, a1, hl, fun m h1 h2 => k _ M G H _ (Same.refl _) s0 (.int _) (q m h1 h2)⟩
  · exact h.elim
def zAbs : ZRA := fun xs M Q => match xs with
  | [.int i] => Q (.int (if i < 0 then -i else i)) M
  | _ => False
theorem abs_ok : CallR X (.builtin "abs") (upC X.K G0 zAbs) := by
  intro pins s σ' H vs us Q I r h
  obtain ⟨z, M, G, σ, xs, Qz, s0, rx, h, k⟩ := h
  unfold zAbs at h
  split at h
  · cases rx with
    | cons r1 r2 =>
      cases r2; cases r1
      exact call_abs pins s σ' H _ us Q I r ⟨_, rfl, k _ M G H _ (Same.refl _) s0 (.int _) h⟩
  · exact h.elim
/-- list(..) -/
def zList : List PV → Mem → (List PV → Mem → Prop) → Prop := fun xs M Q => match xs with
  | [x] => ∃ ys, asS M x = some ys ∧ ys.length ≤ sizeLine ∧ Q ys M
  | _ => False
theorem list_ok : CallR X (.type "list") (upCL X.K G0 zList) := by
  intro pins s σ' H vs us Q I r h
  obtain ⟨z, M, G, σ, xs, Qz, s0, rx, h, k⟩ := h
  unfold zList at h
  split at h
  · obtain ⟨ys, e, hz, q⟩ := h
    cases rx with
    | cons r1 r2 =>
      cases r2
      obtain ⟨a, ws, rfl, a1, a2, a3⟩ := asS_ok s0 r1 e
      exact call_list_of pins s σ' H _ us Q I r ⟨a, ws, rfl, a1, fun p hp => k _ M G H p ws (Same.refl _) s0 hp a2 q⟩
  · exact h.elim

/-! ### isinstance of a built-in class -/
def tyP (M : Mem) : PV → Option String
  | .non => some "NoneType"
  | .bl _ => some "bool"
  | .int _ => some "int"
  | .str _ => some "str"
  | .tup _ => some "tuple"
  | .lst _ => some "list"
  | .rol _ => some "list"
  | .dct _ => some "dict"
  | .ref a => match M a with
    | some (.lst _) => some "list"
    | some (.dK _) => some "dict"
    | some (.dT _) => some "dict"
    | _ => none
  | _ => none
def isiB (t c : String) : Bool := t == c || (t == "bool" && c == "int")
theorem tyP_ok {K : Frag} {G0 G : Hp} {z : ZSt} {M : Mem} {σ : L2.St} {H : Hp} {x : PV} {v : V} {t : String} (s : ZS K G0 z M G σ H) (r : Rep K G x v) (h : tyP M x = some t) : TyX K H v (.type t) := by
  cases r with
  | non => cases h; exact .base .non
  | bl b => cases h; exact .base (.bl b)
  | int b => cases h; exact .base (.int b)
  | str b => cases h; exact .base (.str b)
  | tup h1 => cases h; exact .base (.tup (s.sub _ _ h1))
  | lst h1 => cases h; exact .base (.lst (s.sub _ _ h1))
  | dct h1 => cases h; exact .base (.dK (s.sub _ _ h1))
  | ty n => cases h
  | rol h1 =>
    cases h
    rcases s.sub.seq h1 with (e | ⟨o, e⟩) | ⟨o, its, n, e, c, _⟩
    · exact .base (.lst e)
    · exact .base (.frz e)
    · exact .kList e c
  | ref a =>
    have h' : (match M a with
      | some (.lst _) => some "list"
      | some (.dK _) => some "dict"
      | some (.dT _) => some "dict"
      | _ => none) = some t := h
    split at h'
    · rename_i e
      cases h'
      obtain ⟨_, u, h1, h2⟩ := s.mem a _ e
      cases h2
      exact .base (.lst h1)
    · rename_i e
      cases h'
      obtain ⟨_, u, h1, h2⟩ := s.mem a _ e
      cases h2
      exact .base (.dK h1)
    · rename_i e
      cases h'
      obtain ⟨_, u, h1, h2⟩ := s.mem a _ e
      cases h2
      exact .base (.dT h1)
    · cases h'
theorem tyP_mem {M : Mem} {x : PV} {t : String} (h : tyP M x = some t) : t ∈ ["NoneType", "bool", "int", "str", "tuple", "list", "dict"] := by
  cases x with
  | ref a =>
    have h' : (match M a with
      | some (.lst _) => some "list"
      | some (.dK _) => some "dict"
      | some (.dT _) => some "dict"
      | _ => none) = some t := h
    split at h' <;> cases h' <;> decide
  | _ => cases h <;> decide
theorem kit_all : ∀ t ∈ ["NoneType", "bool", "int", "str", "tuple", "list", "dict"], ∀ c ∈ ["bool", "int", "str", "tuple", "list", "dict"], kitB t c = some (isiB t c) := by decide +kernel
def zIsi (c : String) : ZRA := fun xs M Q => match xs with
  | [x, .ty n] => ∃ t, tyP M x = some t ∧ n = c ∧ Q (.bl (isiB t c)) M
  | _ => False
theorem isi_ok {c : String} (hc : c ∈ ["bool", "int", "str", "tuple", "list", "dict"]) : CallR X (.builtin "isinstance") (upC X.K G0 (zIsi c)) := by
  intro pins s σ' H vs us Q I r h
  obtain ⟨z, M, G, σ, xs, Qz, s0, rx, h, k⟩ := h
  unfold zIsi at h
  split at h
  · obtain ⟨t, e, rfl, q⟩ := h
    cases rx with
    | cons r1 r2 =>
      cases r2 with
      | cons r2 r3 =>
        cases r3; cases r2
        exact call_isi pins s σ' H _ us Q I r ⟨_, _, _, _, _, rfl, .ty _, tyP_ok s0 r1 e, kit_ty (kit_all t (tyP_mem e) _ hc), k _ M G H _ (Same.refl _) s0 (.bl _) q⟩
  · exact h.elim
end
end Zz
end
section
namespace Zz
open PySem PySem.Spec PyProof.Rows L2

/-! ### what is walked -/
def Yields (K : Frag) (xs : List PV) (G : Hp) (J : It) : Prop := xs.length ≤ sizeLine ∧ ∀ (G0 : Hp) (z : ZSt) (M : Mem) (σ : L2.St) (G2 H2 : Hp), Same G G2 → ZS K G0 z M G2 σ H2 → ∀ i : Nat,
  (xs.length ≤ i → J.stop i H2) ∧ ∀ x, xs[i]? = some x → J.go i H2 ∧ ∀ v H3, J.yld i H2 v H3 → ∃ G3, Same G2 G3 ∧ ZS K G0 z M G3 σ H3 ∧ Rep K G3 x v
def upI (K : Frag) (G0 : Hp) (W : WX) (t : ZTA) : TI := fun σ H R => ∃ z M G Qz Ez, ZS K G0 z M G σ H ∧ XLe K G0 W Ez ∧ t Ez z M Qz ∧
  ∀ xs M' G' H' J, Same G G' → ZS K G0 z M' G' σ H' → Yields K xs G' J → Qz xs M' → R J H'
theorem PI.imp {X : Cx} {tg e : Expr} {t t' : TI} (h : PI X tg e t) (w : ∀ σ H R, t' σ H R → t σ H R) : PI X tg e t' := ⟨fun pins s σ H R I q => h.run pins s σ H R I (w σ H R q)⟩
section
variable {X : Cx} {G0 : Hp} {W : WX} {e a b c tg : Expr} {es : List Expr} {za zb zc : ZTE} {pos p : Pos} {K : Frag}
theorem yields_list {xs : List PV} {vs : List V} {a : Addr} {G : Hp} (h : SqL K G a vs) (r : RepA K G xs vs) (hz : xs.length ≤ sizeLine) : Yields K xs G (Itl K a) := by
  refine ⟨hz, fun G0 z M σ G2 H2 e s i => ⟨fun hi => ⟨vs, (e.trans s.sub).seq h, by rw [← r.length]; exact hi⟩, fun x hx => ?_⟩⟩
  obtain ⟨v, h1, h2⟩ := r.get hx
  refine ⟨⟨vs, v, (e.trans s.sub).seq h, h1⟩, fun u H3 q => ?_⟩
  obtain ⟨rfl, q⟩ := q
  have := q vs ((e.trans s.sub).seq h)
  rw [h1] at this
  cases this
  exact ⟨G2, Same.refl _, s, h2.mono e⟩
theorem yields_tup {xs : List PV} {vs : List V} {a : Addr} {G : Hp} (h : SqT K G a vs) (r : RepA K G xs vs) (hz : xs.length ≤ sizeLine) : Yields K xs G (Itt K a) := by
  refine ⟨hz, fun G0 z M σ G2 H2 e s i => ⟨fun hi => ⟨vs, sqT_mono (e.trans s.sub) h, by rw [← r.length]; exact hi⟩, fun x hx => ?_⟩⟩
  obtain ⟨v, h1, h2⟩ := r.get hx
  refine ⟨⟨vs, v, sqT_mono (e.trans s.sub) h, h1⟩, fun u H3 q => ?_⟩
  obtain ⟨rfl, q⟩ := q
  have := q vs (sqT_mono (e.trans s.sub) h)
  rw [h1] at this
  cases this
  exact ⟨G2, Same.refl _, s, h2.mono e⟩
def chars (s : Str) : List PV := s.cps.toList.map fun c => PV.str ⟨#[c]⟩
theorem yields_str {s : Str} {G : Hp} (hz : s.length ≤ sizeLine) : Yields K (chars s) G (Its s) := by
  refine ⟨by unfold chars; rw [List.length_map]; exact hz, fun G0 z M σ G2 H2 e q i => ⟨fun hi => ?_, fun x hx => ?_⟩⟩
  · unfold chars at hi; rw [List.length_map] at hi; exact hi
  · unfold chars at hx
    rw [List.getElem?_map] at hx
    cases h1 : s.cps.toList[i]? with
    | none => rw [h1] at hx; cases hx
    | some c =>
      rw [h1] at hx
      cases hx
      have hi : i < s.cps.size := by
        have := (List.getElem?_eq_some_iff.mp h1).1
        simpa using this
      refine ⟨hi, fun v H3 w => ?_⟩
      obtain ⟨rfl, c', e1, rfl⟩ := w
      have : c' = c := by
        rw [Array.getElem?_toList] at h1
        rw [h1] at e1
        exact (Option.some.inj e1).symm
      subst this
      exact ⟨G2, Same.refl _, q, .str _ (by show 1 ≤ sizeLine; decide)⟩
def rngP (lo : Int) (n : Nat) : List PV := (List.range n).map fun k => PV.int (lo + (k : Nat))
theorem yields_rng {lo : Int} {n : Nat} {G : Hp} (hz : n ≤ sizeLine) : Yields K (rngP lo n) G (Itr lo n) := by
  refine ⟨by unfold rngP; rw [List.length_map, List.length_range]; exact hz, fun G0 z M σ G2 H2 e q i => ⟨fun hi => ?_, fun x hx => ?_⟩⟩
  · unfold rngP at hi; rw [List.length_map, List.length_range] at hi; exact hi
  · unfold rngP at hx
    rw [List.getElem?_map] at hx
    by_cases hi : i < n
    · rw [List.getElem?_range hi] at hx
      cases hx
      exact ⟨hi, fun v H3 w => ⟨G2, Same.refl _, by rw [w.1]; exact q, by rw [w.2]; exact .int _⟩⟩
    · rw [List.getElem?_eq_none (by rw [List.length_range]; omega)] at hx
      cases hx
/-- a tuple, a list that isn't watched, a text -/
def zVal (za : ZTE) : ZTA := fun E z M Q => za E z M fun x M1 => match x with
  | .tup xs => Q xs M1
  | .lst xs => Q xs M1
  | .rol xs => Q xs M1
  | .str s => Q (chars s) M1
  | _ => False
theorem i_val (ha : PE X a (up X.K G0 W za)) : PI X tg a (upI X.K G0 W (zVal za)) := by
  refine ⟨fun pins s σ H R I h => ?_⟩
  obtain ⟨z, M, G, Qz, Ez, s0, xl, t, k⟩ := h
  have ht : up X.K G0 W za σ H (fun v H1 => ∃ x M1 G1, Same G G1 ∧ ZS X.K G0 z M1 G1 σ H1 ∧ Rep X.K G1 x v ∧ (match x with
    | .tup xs => Qz xs M1
    | .lst xs => Qz xs M1
    | .rol xs => Qz xs M1
    | .str s => Qz (chars s) M1
    | _ => False)) := ⟨z, M, G, _, Ez, s0, xl, t, fun x M1 G1 H1 v e1 s1 r1 q1 => ⟨x, M1, G1, e1, s1, r1, q1⟩⟩
  refine thn (ha.run pins s σ H _ I ht) fun v s1 ⟨y, H1, I1, r1, x, M1, G1, e1, z1, rx, q⟩ => ?_
  have lst : ∀ (p : Addr) (vs : List V) (xs : List PV), y = .ref p → SqL X.K G1 p vs → RepA X.K G1 xs vs → xs.length ≤ sizeLine → Qz xs M1 → wpAny (model X.prog X.w) X.A (pyIter v) (PIE X pins σ tg R) X.xe s1 := by
    intro p vs xs ey h1 h2 h3 q
    subst ey
    cases r1
    have hq := z1.sub.seq h1
    obtain ⟨its, rv, pl, hz⟩ := I1.list hq
    refine wpAny_pyIter_list pl.isList ?_
    refine ⟨s1.heap.objs.size, [s1.heap.objs.size], _, _, H1, rfl, I1.kept (t' := s1.toks) fun b o e => Heap.get?_push_of_some _ e, turn_list p _, ⟨_, Heap.get?_push_size _ rfl, rfl, rfl⟩, fun b hb => ?_, ?_⟩
    · have e : b = s1.heap.objs.size := by simpa using hb
      subst e
      exact I1.fpOk (Nat.le_refl _) (I1.hok.fresh (Nat.le_refl _))
    · exact k _ _ _ _ _ e1 z1 (yields_list h1 h2 h3) q
  split at q
  · cases rx with
    | tup h1 h2 h3 =>
    cases r1
    have hq := SqT.of (K := X.K) (z1.sub _ _ h1)
    obtain ⟨its, rv, pl, hz⟩ := I1.tuple hq
    refine wpAny_pyIter_tuple (show s1.heap.IsTuple _ its.toArray from pl) ?_
    refine ⟨s1.heap.objs.size, [s1.heap.objs.size], _, _, H1, rfl, I1.kept (t' := s1.toks) fun b o e => Heap.get?_push_of_some _ e, turn_tuple _ _, ⟨_, Heap.get?_push_size _ rfl, rfl, rfl⟩, fun b hb => ?_, ?_⟩
    · have e : b = s1.heap.objs.size := by simpa using hb
      subst e
      exact I1.fpOk (Nat.le_refl _) (I1.hok.fresh (Nat.le_refl _))
    · exact k _ _ _ _ _ e1 z1 (yields_tup (SqT.of h1) h2 h3) q
  · cases rx with
    | lst h1 h2 h3 => exact lst _ _ _ rfl (.inl (.inl h1)) h2 h3 q
  · cases rx with
    | rol h1 h2 h3 => exact lst _ _ _ rfl h1 h2 h3 q
  · rename_i xs
    cases rx with
    | str _ hz =>
    obtain ⟨t, rfl⟩ := r1
    cases ha : xs.cps.all (· < 128)
    · exact wpAny_pyIter_wide ha (pi_one (tk := s1.toks) I1 _ (turn_str _ xs t "str_iterator" (.inr rfl)) ⟨_, Heap.get?_push_size _ rfl, rfl, rfl⟩ (k _ _ _ _ _ e1 z1 (yields_str hz) q))
    · exact wpAny_pyIter_ascii ha (pi_one (tk := s1.toks) I1 _ (turn_str _ xs t "str_ascii_iterator" (.inl rfl)) ⟨_, Heap.get?_push_size _ rfl, rfl, rfl⟩ (k _ _ _ _ _ e1 z1 (yields_str hz) q))
  · exact q.elim

/-- range(a), range(a, b) -/
def zRng1 (zs : ZTA) : ZTA := fun E z M Q => zs E z M fun xs M1 => match xs with
  | [.int j] => -(2 ^ 62) ≤ j ∧ j ≤ sizeLine ∧ Q (rngP 0 j.toNat) M1
  | _ => False
theorem i_rng1 {zs : ZTA} (hg : Gl X "range") (hm : X.mg "range" = none) (ha : PA X [a] (upA X.K G0 W zs)) (hs : starEach [a] X.env = [(false, eval a X.env)]) : PI X tg (.Call (.Name "range" p) [a] [] pos) (upI X.K G0 W (zRng1 zs)) :=
  PI.imp (pi_range1 hg hm ha hs) fun σ H R h => by
    obtain ⟨z, M, G, Qz, Ez, s, xl, t, k⟩ := h
    refine ⟨z, M, G, _, Ez, s, xl, t, fun xs M1 G1 H1 vs e1 s1 r1 q1 => ?_⟩
    split at q1
    · obtain ⟨b1, b2, q⟩ := q1
      cases r1 with
      | cons r1 r2 =>
        cases r2; cases r1
        have hs := size63
        exact ⟨_, rfl, b1, by omega, k _ _ _ _ _ e1 s1 (yields_rng (by omega)) q⟩
    · exact q1.elim
def zRng2 (zs : ZTA) : ZTA := fun E z M Q => zs E z M fun xs M1 => match xs with
  | [.int i, .int j] => -(2 ^ 62) ≤ i ∧ i < 2 ^ 62 ∧ -(2 ^ 62) ≤ j ∧ j < 2 ^ 62 ∧ j - i ≤ sizeLine ∧ Q (rngP i (j - i).toNat) M1
  | _ => False
theorem i_rng2 {zs : ZTA} (hg : Gl X "range") (hm : X.mg "range" = none) (ha : PA X [a, b] (upA X.K G0 W zs)) (hs : starEach [a, b] X.env = [(false, eval a X.env), (false, eval b X.env)]) (hs2 : starEach [b] X.env = [(false, eval b X.env)]) :
    PI X tg (.Call (.Name "range" p) [a, b] [] pos) (upI X.K G0 W (zRng2 zs)) :=
  PI.imp (pi_range2 hg hm ha hs hs2) fun σ H R h => by
    obtain ⟨z, M, G, Qz, Ez, s, xl, t, k⟩ := h
    refine ⟨z, M, G, _, Ez, s, xl, t, fun xs M1 G1 H1 vs e1 s1 r1 q1 => ?_⟩
    split at q1
    · obtain ⟨b1, b2, b3, b4, b5, q⟩ := q1
      cases r1 with
      | cons r1 r2 =>
        cases r2 with
        | cons r2 r3 =>
          cases r3; cases r1; cases r2
          exact ⟨_, _, rfl, ⟨b1, b2, b3, b4⟩, k _ _ _ _ _ e1 s1 (yields_rng (by omega)) q⟩
    · exact q1.elim
/-- enumerate of a list -/
def enumP (xs : List PV) : List PV := (List.range xs.length).zipWith (fun k x => PV.tup [.int (k : Nat), x]) xs
theorem enumP_get {xs : List PV} {i : Nat} {x : PV} (h : (enumP xs)[i]? = some x) : ∃ y, xs[i]? = some y ∧ x = .tup [.int (i : Nat), y] := by
  unfold enumP at h
  rw [List.getElem?_zipWith] at h
  split at h
  · rename_i a b e1 e2
    cases h
    have hi := (List.getElem?_eq_some_iff.mp e1).1
    rw [List.length_range] at hi
    rw [List.getElem?_range hi] at e1
    cases e1
    exact ⟨b, e2, rfl⟩
  · cases h
theorem enumP_length (xs : List PV) : (enumP xs).length = xs.length := by unfold enumP; rw [List.length_zipWith, List.length_range, Nat.min_self]
theorem yields_enum {xs : List PV} {vs : List V} {a : Addr} {G : Hp} (h : SqL K G a vs) (r : RepA K G xs vs) (hz : xs.length ≤ sizeLine) : Yields K (enumP xs) G (Ite K a) := by
  refine ⟨by rw [enumP_length]; exact hz, fun G0 z M σ G2 H2 e s i => ⟨fun hi => ⟨vs, (e.trans s.sub).seq h, by rw [← r.length, ← enumP_length xs]; exact hi⟩, fun x hx => ?_⟩⟩
  obtain ⟨y, hy, rfl⟩ := enumP_get hx
  obtain ⟨v, h1, h2⟩ := r.get hy
  refine ⟨⟨vs, v, (e.trans s.sub).seq h, h1⟩, fun u H3 q => ?_⟩
  obtain ⟨T, w, rfl, hT, rfl, q⟩ := q
  have := q vs ((e.trans s.sub).seq h)
  rw [h1] at this
  cases this
  obtain ⟨s', e'⟩ := s.froz (o := .tup [.int (i : Nat), v]) hT
  exact ⟨_, e', s', .tup upd_same (.cons (.int _) (.cons (h2.mono (e.trans e')) .nil)) (by show 2 ≤ sizeLine; decide)⟩
def zEnum (zs : ZTA) : ZTA := fun E z M Q => zs E z M fun xs M1 => match xs with
  | [.lst ys] => Q (enumP ys) M1
  | _ => False
theorem i_enum {zs : ZTA} {elts : List Expr} {kk : Nat} {tpos : Pos} (hg : Gl X "enumerate") (hm : X.mg "enumerate" = none) (ha : PA X [a] (upA X.K G0 W zs)) (hs : starEach [a] X.env = [(false, eval a X.env)]) :
    PI X (.Tuple elts kk tpos) (.Call (.Name "enumerate" p) [a] [] pos) (upI X.K G0 W (zEnum zs)) :=
  PI.imp (pi_enum hg hm ha hs) fun σ H R h => by
    obtain ⟨z, M, G, Qz, Ez, s, xl, t, k⟩ := h
    refine ⟨z, M, G, _, Ez, s, xl, t, fun xs M1 G1 H1 vs e1 s1 r1 q1 => ?_⟩
    split at q1
    · cases r1 with
      | cons r1 r2 =>
        cases r2
        cases r1 with
        | lst h1 h2 h3 => exact ⟨_, _, rfl, .inl (.inl (s1.sub _ _ h1)), k _ _ _ _ _ e1 s1 (yields_enum (.inl (.inl h1)) h2 h3) q1⟩
    · exact q1.elim

/-! ### targets -/
abbrev ZTG := PV → ZSt → (ZSt → Prop) → Prop
def Keep (ts : List Nat) (σ σ' : L2.St) : Prop := σ'.length = σ.length ∧ ∀ j : Nat, j ∉ ts → σ'[j]? = σ[j]?
theorem Keep.refl (ts : List Nat) (σ : L2.St) : Keep ts σ σ := ⟨rfl, fun _ _ => rfl⟩
theorem Keep.trans {ts : List Nat} {σ σ1 σ2 : L2.St} (a : Keep ts σ σ1) (b : Keep ts σ1 σ2) : Keep ts σ σ2 := ⟨b.1.trans a.1, fun j h => (b.2 j h).trans (a.2 j h)⟩
theorem Keep.mono {ts us : List Nat} {σ σ' : L2.St} (a : Keep ts σ σ') (h : ∀ i ∈ ts, i ∈ us) : Keep us σ σ' := ⟨a.1, fun j hj => a.2 j fun q => hj (h j q)⟩
def upG (K : Frag) (ts : List Nat) (t : ZTG) : TG := fun v σ H Q => ∃ (G0 : Hp) (z : ZSt) (M : Mem) (G : Hp) (x : PV) (Qz : ZSt → Prop), ZS K G0 z M G σ H ∧ Rep K G x v ∧ t x z Qz ∧ ∀ z' σ', ZS K G0 z' M G σ' H → Keep ts σ σ' → Qz z' → Q σ' H
theorem PG.imp {X : Cx} {e : Expr} {t t' : TG} (h : PG X e t) (w : ∀ v σ H Q, t' v σ H Q → t v σ H Q) : PG X e t' := ⟨fun pins s σ H v u Q I r q => h.run pins s σ H v u Q I r (w v σ H Q q)⟩
theorem PGs.imp {X : Cx} {e : List Expr} {t t' : TGs} (h : PGs X e t) (w : ∀ v σ H Q, t' v σ H Q → t v σ H Q) : PGs X e t' := ⟨fun pins s σ H v u Q I r q => h.run pins s σ H v u Q I r (w v σ H Q q)⟩
def gNm (i : Nat) : ZTG := fun x z Q => Q (z.set i (some x))
theorem g_nm {i : Nat} {x : Str} (hN : X.N.Nodup) (hi : X.N[i]? = some x) (hx : Loc X.env.scope x) (hf : X.fn x = true ∨ X.env.scope.names.lookup x = some .local) : PG X (.Name x pos) (upG X.K [i] (gNm i)) :=
  PG.imp (pg_name hN hi hx hf) fun v σ H Q h => by
    obtain ⟨G0, z, M, G, x, Qz, s, r, t, k⟩ := h
    exact k _ _ (s.set r) ⟨by rw [List.length_set], fun j hj => List.getElem?_set_ne fun e => hj (by simp [e])⟩ t
abbrev ZTGs := List PV → ZSt → (ZSt → Prop) → Prop
def upGs (K : Frag) (ts : List Nat) (t : ZTGs) : TGs := fun vs σ H Q => ∃ (G0 : Hp) (z : ZSt) (M : Mem) (G : Hp) (xs : List PV) (Qz : ZSt → Prop), ZS K G0 z M G σ H ∧ RepA K G xs vs ∧ t xs z Qz ∧ ∀ z' σ', ZS K G0 z' M G σ' H → Keep ts σ σ' → Qz z' → Q σ' H
def gNil : ZTGs := fun xs z Q => match xs with
  | [] => Q z
  | _ => False
def gCons (t : ZTG) (u : ZTGs) : ZTGs := fun xs z Q => match xs with
  | x :: r => t x z fun z' => u r z' Q
  | [] => False
theorem gs_nil : PGs X [] (upGs X.K [] gNil) :=
  PGs.imp pgs_nil fun v σ H Q h => by
    obtain ⟨G0, z, M, G, xs, Qz, s, r, t, k⟩ := h
    cases r with
    | nil => exact ⟨rfl, k _ _ s (Keep.refl _ _) t⟩
    | cons _ _ => exact t.elim
theorem gs_cons {t : ZTG} {u : ZTGs} {ts us : List Nat} (h1 : PG X e (upG X.K ts t)) (h2 : PGs X es (upGs X.K us u)) (hs : (assignEach (e :: es) X.env).map (·.2) = assign e X.env :: (assignEach es X.env).map (·.2)) : PGs X (e :: es) (upGs X.K (ts ++ us) (gCons t u)) :=
  PGs.imp (pgs_cons h1 h2 hs) fun v σ H Q h => by
    obtain ⟨G0, z, M, G, xs, Qz, s, r, t, k⟩ := h
    cases r with
    | nil => exact t.elim
    | cons r1 r2 => exact ⟨_, _, rfl, G0, z, M, G, _, _, s, r1, t, fun z' σ' s' kp q => ⟨G0, z', M, G, _, Qz, s', r2, q, fun z2 σ2 s2 kp2 q2 => k z2 σ2 s2 ((kp.mono fun i h => List.mem_append_left _ h).trans (kp2.mono fun i h => List.mem_append_right _ h)) q2⟩⟩
def gTup (n : Nat) (t : ZTGs) : ZTG := fun x z Q => match x with
  | .tup xs => xs.length = n ∧ t xs z Q
  | _ => False
theorem g_tup {es : List Expr} {kk : Nat} {t : ZTGs} {n : Nat} {ts : List Nat} (hc : X.calm = true) (h : PGs X es (upGs X.K ts t)) (hn : (assignEach es X.env).length = n) (hst : (assignEach es X.env).findIdx? (·.1) = none) : PG X (.Tuple es kk pos) (upG X.K ts (gTup n t)) :=
  PG.imp (pg_tup hc h hn hst) fun v σ H Q h => by
    obtain ⟨G0, z, M, G, x, Qz, s, r, t, k⟩ := h
    unfold gTup at t
    split at t
    · obtain ⟨a, vs, rfl, a1, a2, _⟩ := asT_ok s r rfl
      exact ⟨a, vs, rfl, SqT.of a1, by rw [← a2.length]; exact t.1, G0, z, M, G, _, Qz, s, a2, t.2, k⟩
    · exact t.elim
end
end Zz
end
section
namespace Zz
open PySem PySem.Spec PyProof.Rows L2

section
variable {K : Frag} {G0 G G1 : Hp} {z : ZSt} {M : Mem} {σ : L2.St} {H : Hp}
theorem ZS.rebase (s : ZS K G0 z M G σ H) : ZS K G z M G σ H := ⟨Same.refl _, s.sub, s.mem, s.len, s.slot⟩
theorem XLe.weak {W : WX} {E : ZE} (x : XLe K G0 W E) (e : Same G0 G1) : XLe K G1 W E := fun C fs z M G σ H d s r q => x C fs z M G σ H d (s.weak e) r q
theorem ELe.weak {Dz : ZEnds} {D : Ends} (x : ELe K G0 Dz D) (e : Same G0 G1) : ELe K G1 Dz D :=
  ⟨fun z M G σ H s q => x.nx z M G σ H (s.weak e) q, fun z y M G σ H v s r q => x.rt z y M G σ H v (s.weak e) r q, fun z M G σ H s q => x.bk z M G σ H (s.weak e) q, fun z M G σ H s q => x.ct z M G σ H (s.weak e) q⟩
end
section
variable {X : Cx} {G0 : Hp} {W : WX} {e a b c tg : Expr} {es : List Expr} {za zb zc : ZTE} {pos p : Pos} {K : Frag} {st : Stmt} {sts : List Stmt} {t u : ZTS}
/-! ### statements -/
def zsNil : ZTS := fun _ D z M => D.nx z M
def zsCons (t u : ZTS) : ZTS := fun E D z M => t E { D with nx := u E D } z M
theorem s_nil : PSs X [] (upS X.K G0 W zsNil) := PSs.imp pss_nil fun D σ H h => by
  obtain ⟨z, M, G, Dz, Ez, s, xl, t, k⟩ := h
  exact k.nx _ _ _ _ _ s t
theorem s_cons (h1 : PS X st (upS X.K G0 W t)) (h2 : PSs X sts (upS X.K G0 W u)) : PSs X (st :: sts) (upS X.K G0 W (zsCons t u)) := PSs.imp (pss_cons h1 h2) fun D σ H h => by
  obtain ⟨z, M, G, Dz, Ez, s, xl, t, k⟩ := h
  exact ⟨z, M, G, _, Ez, s, xl, t, ⟨fun z' M' G' σ' H' s' q => ⟨z', M', G', Dz, Ez, s', xl, q, k⟩, k.rt, k.bk, k.ct⟩⟩
def zsPass : ZTS := fun _ D z M => D.nx z M
theorem s_pass : PS X (.Pass pos) (upS X.K G0 W zsPass) := PS.imp ps_pass fun D σ H h => by
  obtain ⟨z, M, G, Dz, Ez, s, xl, t, k⟩ := h
  exact k.nx _ _ _ _ _ s t
theorem s_doc {x j pos'} : PS X (.Expr (.Constant (.str x) j pos) pos') (upS X.K G0 W zsPass) := PS.imp ps_doc fun D σ H h => by
  obtain ⟨z, M, G, Dz, Ez, s, xl, t, k⟩ := h
  exact k.nx _ _ _ _ _ s t
def zsBreak : ZTS := fun _ D z M => D.bk z M
theorem s_break : PS X (.Break pos) (upS X.K G0 W zsBreak) := PS.imp ps_break fun D σ H h => by
  obtain ⟨z, M, G, Dz, Ez, s, xl, t, k⟩ := h
  exact k.bk _ _ _ _ _ s t
def zsCont : ZTS := fun _ D z M => D.ct z M
theorem s_cont : PS X (.Continue pos) (upS X.K G0 W zsCont) := PS.imp ps_continue fun D σ H h => by
  obtain ⟨z, M, G, Dz, Ez, s, xl, t, k⟩ := h
  exact k.ct _ _ _ _ _ s t
def zsExpr (za : ZTE) : ZTS := fun E D z M => za E z M fun _ M1 => D.nx z M1
theorem s_expr (he : PE X e (up X.K G0 W za)) (hs : swapsWith e none pos.line X.env = pure false) : PS X (.Expr e pos) (upS X.K G0 W (zsExpr za)) := PS.imp (ps_expr he hs) fun D σ H h => by
  obtain ⟨z, M, G, Dz, Ez, s, xl, t, k⟩ := h
  exact ⟨z, M, G, _, Ez, s, xl, t, fun x M1 G1 H1 v e1 s1 r1 q1 => k.nx _ _ _ _ _ s1 q1⟩
def zsRet (za : ZTE) : ZTS := fun E D z M => za E z M D.rt
theorem s_ret (he : PE X e (up X.K G0 W za)) : PS X (.Return (some e) pos) (upS X.K G0 W (zsRet za)) := PS.imp (ps_ret he) fun D σ H h => by
  obtain ⟨z, M, G, Dz, Ez, s, xl, t, k⟩ := h
  exact ⟨z, M, G, _, Ez, s, xl, t, fun x M1 G1 H1 v e1 s1 r1 q1 => k.rt _ _ _ _ _ _ _ s1 r1 q1⟩
def zsRetN : ZTS := fun _ D _ M => D.rt .non M
theorem s_retN : PS X (.Return none pos) (upS X.K G0 W zsRetN) := PS.imp ps_retN fun D σ H h => by
  obtain ⟨z, M, G, Dz, Ez, s, xl, t, k⟩ := h
  exact k.rt _ _ _ _ _ _ _ s .non t
def zsIf (c : ZTT) (t u : ZTS) : ZTS := fun E D z M => c E z M fun b M1 => if b = true then t E D z M1 else u E D z M1
theorem s_if {tc : ZTT} {ta tb : List Stmt} (hc : PT X c (upT X.K G0 W tc)) (ha : PSs X ta (upS X.K G0 W t)) (hb : PSs X tb (upS X.K G0 W u)) : PS X (.If c ta tb pos) (upS X.K G0 W (zsIf tc t u)) := PS.imp (ps_if hc ha hb) fun D σ H h => by
  obtain ⟨z, M, G, Dz, Ez, s, xl, t, k⟩ := h
  refine ⟨z, M, G, _, Ez, s, xl, t, fun b M1 G1 H1 e1 s1 q1 => ?_⟩
  cases b with
  | true => exact iteT ⟨z, M1, G1, Dz, Ez, s1, xl, q1, k⟩
  | false => exact iteF ⟨z, M1, G1, Dz, Ez, s1, xl, q1, k⟩
def zsAsg (za : ZTE) (g : ZTG) : ZTS := fun E D z M => za E z M fun x M1 => g x z fun z' => D.nx z' M1
theorem s_asg {g : ZTG} {ts : List Nat} (he : PE X e (up X.K G0 W za)) (hg : PG X tg (upG X.K ts g)) (hs : swapsWithSole [tg] e pos.line X.env = pure false) (hw : swappedStores [tg] e X.env = pure none)
    (h1 : (assignEach [tg] X.env).map (·.2) = [assign tg X.env]) : PS X (.Assign [tg] e pos) (upS X.K G0 W (zsAsg za g)) := PS.imp (ps_asg he hg hs hw h1) fun D σ H h => by
  obtain ⟨z, M, G, Dz, Ez, s, xl, t, k⟩ := h
  exact ⟨z, M, G, _, Ez, s, xl, t, fun x M1 G1 H1 v e1 s1 r1 q1 => ⟨G0, z, M1, G1, x, _, s1, r1, q1, fun z' σ' s' _ q' => k.nx _ _ _ _ _ s' q'⟩⟩
theorem s_set {i : Nat} {x : Str} {pos' : Pos} (hN : X.N.Nodup) (hi : X.N[i]? = some x) (hx : Loc X.env.scope x) (he : PE X e (up X.K G0 W za)) (hs : swapsWith e (some (.Name x pos')) pos.line X.env = pure false)
    (hf : X.fn x = true ∨ X.env.scope.names.lookup x = some .local) : PS X (.Assign [.Name x pos'] e pos) (upS X.K G0 W (zsAsg za (gNm i))) := PS.imp (ps_set hN hi hx he hs hf) fun D σ H h => by
  obtain ⟨z, M, G, Dz, Ez, s, xl, t, k⟩ := h
  exact ⟨z, M, G, _, Ez, s, xl, t, fun x M1 G1 H1 v e1 s1 r1 q1 => k.nx _ _ _ _ _ (s1.set r1) q1⟩
def zsPar (i j : Nat) (ta : ZTA) : ZTS := fun E D z M => ta E z M fun xs M1 => match xs with
  | [x, y] => D.nx ((z.set i (some x)).set j (some y)) M1
  | _ => False
theorem s_par {i j : Nat} {x y : Str} {px py pt : Pos} {kt k2 pt2} {ta : ZTA} (hc : X.calm = true) (hN : X.N.Nodup) (hi : X.N[i]? = some x) (hj : X.N[j]? = some y) (hij : i ≠ j)
    (hx : X.env.scope.names.lookup x = some .local) (hy : X.env.scope.names.lookup y = some .local) (ha : PA X [a, b] (upA X.K G0 W ta))
    (hw : swappedStores [.Tuple [.Name x px, .Name y py] kt pt] (.Tuple [a, b] k2 pt2) X.env = pure (some [x, y]))
    (hs : swapsWithSole [.Tuple [.Name x px, .Name y py] kt pt] (.Tuple [a, b] k2 pt2) pos.line X.env = pure false) :
    PS X (.Assign [.Tuple [.Name x px, .Name y py] kt pt] (.Tuple [a, b] k2 pt2) pos) (upS X.K G0 W (zsPar i j ta)) := PS.imp (ps_par hc hN hi hj hij hx hy ha hw hs) fun D σ H h => by
  obtain ⟨z, M, G, Dz, Ez, s, xl, t, k⟩ := h
  refine ⟨z, M, G, _, Ez, s, xl, t, fun xs M1 G1 H1 vs e1 s1 r1 q1 => ?_⟩
  split at q1
  · cases r1 with
    | cons r1 r2 =>
      cases r2 with
      | cons r2 r3 =>
        cases r3
        exact ⟨_, _, rfl, k.nx _ _ _ _ _ ((s1.set r1).set r2) q1⟩
  · exact q1.elim

/-! ### loops -/
theorem PSs.ex {t : Hp → TS} (h : ∀ G0, PSs X sts (t G0)) : PSs X sts (fun D σ H => ∃ G0, t G0 D σ H) := ⟨fun pins s σ H D I q => by
  obtain ⟨G0, q⟩ := q
  exact (h G0).run pins s σ H D I q⟩
def zFor (g : ZTG) (tb : ZTS) (E : ZE) (D : ZEnds) : List PV → ZSt → Mem → Prop
  | [], z, M => D.nx z M
  | x :: r, z, M => g x z fun z' => tb E { D with nx := zFor g tb E D r, ct := zFor g tb E D r, bk := D.nx } z' M
def zsFor (zi : ZTA) (g : ZTG) (tb : ZTS) : ZTS := fun E D z M => zi E z M fun xs M1 => zFor g tb E D xs z M1
theorem s_for {iter : Expr} {body : List Stmt} {zi : ZTA} {g : ZTG} {tb : ZTS} {ts : List Nat} (hp : PassesOwn (model X.prog X.w) X.A X.env X.xe) (hc : X.calm = true) (hi : PI X tg iter (upI X.K G0 W zi)) (hg : PG X tg (upG X.K ts g))
    (hb : ∀ G0, PSs X body (upS X.K G0 W tb)) (hs : ∀ x, foldedSetIterable iter X.env x = pure x) : PS X (.For tg iter body [] pos) (upS X.K G0 W (zsFor zi g tb)) := PS.imp (ps_for hp hc hi hg (PSs.ex hb) hs) fun D σ H h => by
  obtain ⟨z, M, G, Dz, Ez, s, xl, t, k⟩ := h
  refine ⟨z, M, G, _, Ez, s, xl, t, fun xs M1 G1 H1 J e1 s1 y1 q1 => ?_⟩
  have e01 : Same G0 G1 := s1.le
  refine ⟨fun i m σ' H' => m = xs.length - i ∧ ∃ z' M' G', ZS X.K G1 z' M' G' σ' H' ∧ zFor g tb Ez Dz (xs.drop i) z' M', ⟨xs.length, rfl, z, M1, G1, s1.rebase, by rw [List.drop_zero]; exact q1⟩, fun i m σ' H' w => ?_⟩
  obtain ⟨rfl, z', M', G', s', q⟩ := w
  by_cases hi : i < xs.length
  · obtain ⟨g1, g2⟩ := (y1.2 G1 z' M' σ' G' H' s'.le s' i).2 xs[i] (List.getElem?_eq_getElem hi)
    rw [List.drop_eq_getElem_cons hi] at q
    refine .inr ⟨g1, fun σ2 H2 => ∃ z' M' G', ZS X.K G1 z' M' G' σ2 H2 ∧ zFor g tb Ez Dz (xs.drop (i + 1)) z' M', fun σ2 H2 q2 => ⟨xs.length - (i + 1), by omega, rfl, q2⟩, fun v H2 y2 => ?_⟩
    obtain ⟨G3, e3, s3, r3⟩ := g2 v H2 y2
    refine ⟨G1, z', M', G3, xs[i], _, s3, r3, q, fun z2 σ2 s2 _ q2 => ⟨G1, z2, M', G3, _, Ez, s2, xl.weak e01, q2, ?_⟩⟩
    have kw := k.weak e01
    exact ⟨fun z M G σ H s q => ⟨z, M, G, s, q⟩, kw.rt, kw.nx, fun z M G σ H s q => ⟨z, M, G, s, q⟩⟩
  · refine .inl ⟨(y1.2 G1 z' M' σ' G' H' s'.le s' i).1 (by omega), ?_⟩
    rw [List.drop_eq_nil_of_le (by omega)] at q
    exact k.nx _ _ _ _ _ (s'.weak e01) q
def zWhile (c : ZTT) (tb : ZTS) : ZTS := fun E D z M => ∃ I : Nat → ZSt → Mem → Prop, (∃ m, I m z M) ∧ ∀ m z M, I m z M → c E z M fun b M1 => if b = true then
  tb E { D with nx := fun z' M' => ∃ m', m' < m ∧ I m' z' M', ct := fun z' M' => ∃ m', m' < m ∧ I m' z' M', bk := D.nx } z M1 else D.nx z M1
theorem s_while {tc : ZTT} {body : List Stmt} {tb : ZTS} (hp : PassesOwn (model X.prog X.w) X.A X.env X.xe) (hc : PT X c (upT X.K G0 W tc)) (hb : PSs X body (upS X.K G0 W tb)) : PS X (.While c body [] pos) (upS X.K G0 W (zWhile tc tb)) :=
  PS.imp (ps_while hp hc hb) fun D σ H h => by
  obtain ⟨z, M, G, Dz, Ez, s, xl, t, k⟩ := h
  obtain ⟨I, ⟨m0, h0⟩, h1⟩ := t
  refine ⟨fun m σ' H' => ∃ z M G, ZS X.K G0 z M G σ' H' ∧ I m z M, ⟨m0, z, M, G, s, h0⟩, fun m σ' H' w => ?_⟩
  obtain ⟨z', M', G', s', q⟩ := w
  refine ⟨z', M', G', _, Ez, s', xl, h1 m z' M' q, fun b M1 G1 H1 e1 s1 q1 => ?_⟩
  cases b with
  | true =>
    refine iteT ⟨fun σ2 H2 => ∃ z M G, ZS X.K G0 z M G σ2 H2 ∧ ∃ m', m' < m ∧ I m' z M, fun σ2 H2 q2 => ?_, ?_⟩
    · obtain ⟨z2, M2, G2, s2, m', hm, q2⟩ := q2
      exact ⟨m', hm, z2, M2, G2, s2, q2⟩
    · exact ⟨z', M1, G1, _, Ez, s1, xl, q1, ⟨fun z M G σ H s q => ⟨z, M, G, s, q⟩, k.rt, k.nx, fun z M G σ H s q => ⟨z, M, G, s, q⟩⟩⟩
  | false => exact iteF (k.nx _ _ _ _ _ s1 q1)

/-! ### comprehensions -/
def zwipe (z : ZSt) : List Nat → ZSt
  | [] => z
  | v :: vs => (zwipe z vs).set v none
theorem ZS.wipe {z : ZSt} {M : Mem} {G : Hp} {σ : L2.St} {H : Hp} (s : ZS K G0 z M G σ H) : ∀ vs, ZS K G0 (zwipe z vs) M G (L2.wipe σ vs) H
  | [] => s
  | v :: vs => (ZS.wipe s vs).unset
theorem wipe_keep {σ σ' : L2.St} : ∀ {vs : List Nat}, Keep vs σ σ' → L2.wipe σ' vs = L2.wipe σ vs := by
  intro vs k
  have hn : ∀ (σ : L2.St) (vs : List Nat) (j : Nat), j ∈ vs → j < σ.length → (L2.wipe σ vs)[j]? = some none := by
    intro σ vs
    induction vs with
    | nil => intro j h; simp at h
    | cons v vs ih =>
      intro j h hl
      show ((L2.wipe σ vs).set v none)[j]? = _
      by_cases e : v = j
      · subst e
        rw [List.getElem?_set_self (by rw [wipe_length]; exact hl)]
      · rw [List.getElem?_set_ne e]
        exact ih j ((List.mem_cons.mp h).resolve_left fun q => e q.symm) hl
  apply List.ext_getElem?
  intro j
  by_cases hj : j ∈ vs
  · by_cases hl : j < σ.length
    · rw [hn σ' vs j hj (by rw [k.1]; exact hl), hn σ vs j hj hl]
    · rw [List.getElem?_eq_none (by rw [wipe_length, k.1]; omega), List.getElem?_eq_none (by rw [wipe_length]; omega)]
  · rw [wipe_out hj, wipe_out hj]
    exact k.2 j hj
theorem wipe_wipe {σ : L2.St} (vs : List Nat) : L2.wipe (L2.wipe σ vs) vs = L2.wipe σ vs := wipe_keep ⟨wipe_length _ _, fun j hj => wipe_out hj⟩
def EF : ZE := fun _ _ _ _ => False
def zLcGo (g : ZTG) (tt : ZTT) (te : ZTE) (zw : ZSt) (D : Addr) (Q : List PV → Mem → Prop) : List PV → List PV → Mem → Prop
  | acc, [], M => Q acc (mdel M D)
  | acc, x :: r, M => g x zw fun z' => tt EF z' M fun b M1 => if b = true then te EF z' M1 fun y M2 => M2 D = some (.lst acc) ∧ zLcGo g tt te zw D Q (acc ++ [y]) r (mset M2 D (.lst (acc ++ [y])))
    else M1 D = some (.lst acc) ∧ zLcGo g tt te zw D Q acc r M1
def zLc (zi : ZTA) (g : ZTG) (tt : ZTT) (te : ZTE) (vs : List Nat) : ZTA := fun E z M Q => zi E z M fun xs M1 => ∀ D, M1 D = none → zLcGo g tt te (zwipe z vs) D Q [] xs (mset M1 D (.lst []))
def upTs (K : Frag) (t : ZTT) : TT := fun σ H Q => ∃ G0, upT K G0 (fun _ _ _ _ => False) t σ H Q
def WF : WX := fun _ _ _ _ => False
theorem xle_ef : XLe K G0 WF EF := fun _ _ _ _ _ _ _ _ _ _ q => q
theorem tLc_up {σ : L2.St} {H : Hp} {Q : VK} {zi : ZTA} {g : ZTG} {tt : ZTT} {te : ZTE} {vs ts : List Nat} (hts : ∀ i ∈ ts, i ∈ vs) (h : upL K G0 W (zLc zi g tt te vs) σ H Q) :
    tLc (upI K G0 W zi) (upG K ts g) (fun σ H Q => ∃ G0, upT K G0 WF tt σ H Q) (fun σ H Q => ∃ G0, up K G0 WF te σ H Q) vs σ H Q := by
  obtain ⟨z, M, G, Qz, Ez, s, xl, t, k⟩ := h
  refine ⟨z, M, G, _, Ez, s, xl, t, fun xs M1 G1 H1 J e1 s1 y1 q1 D hD => ?_⟩
  refine ⟨fun i m H' => m = xs.length - i ∧ ∃ acc M' G', ZS K G1 z M' G' σ H' ∧ M' D = some (.lst acc) ∧ acc.length ≤ i ∧ zLcGo g tt te (zwipe z vs) D Qz acc (xs.drop i) M',
    ⟨xs.length, rfl, [], _, G1, s1.rebase.news hD (.lst .nil (Nat.zero_le _)), mset_same, Nat.le_refl _, by rw [List.drop_zero]; exact q1 D (s1.nofree hD)⟩, fun i m H' w => ?_⟩
  obtain ⟨rfl, acc, M', G', s', hM, hl, q⟩ := w
  have hz : xs.length ≤ sizeLine := y1.1
  obtain ⟨gD, uD, hHD, rD⟩ := s'.mem D _ hM
  cases rD with
  | lst rD zD =>
  rename_i accV
  by_cases hi : i < xs.length
  · have gg := (y1.2 G1 z M' σ G' H' s'.le s' i).2 xs[i] (List.getElem?_eq_getElem hi)
    have sw := s'.wipe vs
    obtain ⟨g1, g2⟩ := gg
    rw [List.drop_eq_getElem_cons hi] at q
    refine .inr ⟨g1, fun H2 => ∃ acc M' G', ZS K G1 z M' G' σ H2 ∧ M' D = some (.lst acc) ∧ acc.length ≤ i + 1 ∧ zLcGo g tt te (zwipe z vs) D Qz acc (xs.drop (i + 1)) M', fun H2 q2 => ⟨xs.length - (i + 1), by omega, rfl, q2⟩, fun v H2 y2 => ?_⟩
    obtain ⟨G3, e3, s3, r3⟩ := g2 v H2 y2
    refine ⟨G1, zwipe z vs, M', G3, xs[i], _, s3.wipe vs, r3, q, fun z2 σ2 s2 kp q2 => ⟨?_, ?_⟩⟩
    · rw [wipe_keep (kp.mono hts), wipe_wipe]
    · have back : ∀ {M4 : Mem} {G4 H4 : Hp} {z2 : ZSt}, ZS K G3 z2 M4 G4 σ2 H4 → ZS K G1 z M4 G4 σ H4 := fun s4 =>
        ⟨(s3.le.trans s4.le), s4.sub, s4.mem, s.len, fun j x hx => by
          obtain ⟨v, h1, h2⟩ := s3.slot j x hx
          exact ⟨v, h1, h2.mono s4.le⟩⟩
      refine ⟨G3, z2, M', G3, _, EF, s2.rebase, xle_ef, q2, fun bb M4 G4 H4 e4 s4 q4 => ?_⟩
      cases bb with
      | true =>
        refine iteT ⟨G3, z2, M4, G4, _, EF, s4, xle_ef, q4, fun y M5 G5 H5 u e5 s5 r5 q5 => ?_⟩
        obtain ⟨q6, q7⟩ := q5
        obtain ⟨gD5, uD5, hHD5, rD5⟩ := s5.mem D _ q6
        cases rD5 with
        | lst rD5 zD5 =>
        rename_i accV5
        refine ⟨accV5, hHD5, by rw [← rD5.length]; omega, acc ++ [y], _, G5, (back s5).writ q6 (.lst (rD5.append (.cons r5 .nil)) (by rw [List.length_append]; show acc.length + 1 ≤ _; omega)), mset_same, by rw [List.length_append]; show acc.length + 1 ≤ _; omega, q7⟩
      | false =>
        obtain ⟨q5, q6⟩ := q4
        exact iteF ⟨acc, M4, G4, back s4, q5, by omega, q6⟩
  · refine .inl ⟨(y1.2 G1 z M' σ G' H' s'.le s' i).1 (by omega), ?_⟩
    rw [List.drop_eq_nil_of_le (by omega)] at q
    have eH : H' = upd (fun b => if b = D then none else H' b) D (.lst accV) := by
      funext b
      by_cases hb : b = D
      · subst hb; rw [upd_same]; exact hHD
      · rw [upd_ne hb]; exact (if_neg hb).symm
    rw [eH]
    refine k acc (mdel M' D) G' _ D accV (e1.trans s'.le) ⟨s1.le.trans s'.le, fun a o q => ?_, fun a o q => ?_, s'.len, s'.slot⟩ (if_pos rfl) rD q
    · have hb : a ≠ D := fun e => by rw [e, gD] at q; cases q
      show (if a = D then none else H' a) = _
      rw [if_neg hb]
      exact s'.sub _ _ q
    · unfold mdel at q
      split at q
      · cases q
      · rename_i hb
        obtain ⟨h1, u, h2, h3⟩ := s'.mem a o q
        exact ⟨h1, u, (if_neg hb).trans h2, h3⟩
end
end Zz
end
section
namespace Zz
open PySem PySem.Spec PyProof.Rows L2

theorem PTs.imp {X : Cx} {e : List Expr} {t t' : TT} (h : PTs X e t) (w : ∀ σ H Q, t' σ H Q → t σ H Q) : PTs X e t' := ⟨fun pins s σ H Q I q => h.run pins s σ H Q I (w σ H Q q)⟩
section
variable {X : Cx} {G0 : Hp} {W : WX} {e a b c tg : Expr} {es : List Expr} {za zb zc : ZTE} {pos p : Pos} {K : Frag} {st : Stmt} {sts : List Stmt} {t u : ZTS}
theorem PE.ex {t : Hp → TE} (h : ∀ G0, PE X e (t G0)) : PE X e (fun σ H Q => ∃ G0, t G0 σ H Q) := ⟨fun pins s σ H D I q => by
  obtain ⟨G0, q⟩ := q
  exact (h G0).run pins s σ H D I q⟩
theorem PTs.ex {t : Hp → TT} (h : ∀ G0, PTs X es (t G0)) : PTs X es (fun σ H Q => ∃ G0, t G0 σ H Q) := ⟨fun pins s σ H D I q => by
  obtain ⟨G0, q⟩ := q
  exact (h G0).run pins s σ H D I q⟩
def zYes : ZTT := fun _ _ M Q => Q true M
theorem ts_nil : PTs X [] (upT X.K G0 W zYes) := PTs.imp pts_nil fun σ H Q h => by
  obtain ⟨z, M, G, Qz, Ez, s, xl, t, k⟩ := h
  exact k _ _ _ _ (Same.refl _) s t
theorem ts_one {t : ZTT} (h : PT X c (upT X.K G0 W t)) : PTs X [c] (upT X.K G0 W t) := pts_one h
theorem z_lc {elt tg iter : Expr} {ifs : List Expr} {scope : Scope} {own : List (Str × Nat)} {zi : ZTA} {g : ZTG} {tt : ZTT} {te : ZTE} {ts : List Nat} (hc : X.calm = true) (hN : X.N.Nodup) (hi : PI X tg iter (upI X.K G0 W zi)) (ok : BlkOk X.N X.env.scope scope own)
    (hts : ∀ i ∈ ts, i ∈ own.map (·.2))
    (hg : ∀ (s : Shared) (H : Hp) (C : Addr) (cl : List (Str × Addr)) (fp : List Addr), PG (X.blk s H scope (compEnvC scope cl C X.env) fp) tg (upG X.K ts g))
    (ht : ∀ (G0 : Hp) (s : Shared) (H : Hp) (C : Addr) (cl : List (Str × Addr)) (fp : List Addr), PTs (X.blk s H scope (compEnvC scope cl C X.env) fp) ifs (upT X.K G0 WF tt))
    (he : ∀ (G0 : Hp) (s : Shared) (H : Hp) (C : Addr) (cl : List (Str × Addr)) (fp : List Addr), PE (X.blk s H scope (compEnvC scope cl C X.env) fp) elt (up X.K G0 WF te)) (hs : ∀ x, foldedSetIterable iter X.env x = pure x) :
    PE X (.ListComp elt [⟨tg, iter, ifs, 0⟩] scope pos) (upL X.K G0 W (zLc zi g tt te (own.map (·.2)))) :=
  PE.imp (pe_lc hc hN hi ok hg (fun s H C cl fp => PTs.ex fun G0 => ht G0 s H C cl fp) (fun s H C cl fp => PE.ex fun G0 => he G0 s H C cl fp) hs) fun _ _ _ => tLc_up hts
/-- y = [..], on one line -/
def zsSetL (mu : Bool) (zl : ZTA) (i : Nat) : ZTS := fun E D z M => zl E z M fun xs M1 => xs.length ≤ sizeLine ∧ (if mu = true then ∀ p, M1 p = none → D.nx (z.set i (some (.ref p))) (mset M1 p (.lst xs)) else D.nx (z.set i (some (.lst xs))) M1)
theorem s_setLc {mu : Bool} {i : Nat} {y : Str} {py spos : Pos} {elt tg iter : Expr} {ifs : List Expr} {scope : Scope} {own : List (Str × Nat)} {zi : ZTA} {g : ZTG} {tt : ZTT} {te : ZTE} {ts : List Nat} (hc : X.calm = true) (hN : X.N.Nodup)
    (hy : X.N[i]? = some y) (hyl : X.env.scope.names.lookup y = some .local) (hsw : swapsWith (.ListComp elt [⟨tg, iter, ifs, 0⟩] scope pos) (some (.Name y py)) spos.line X.env = pure true)
    (hi : PI X tg iter (upI X.K G0 W zi)) (ok : BlkOk X.N X.env.scope scope own)
    (hts : ∀ i ∈ ts, i ∈ own.map (·.2))
    (hg : ∀ (s : Shared) (H : Hp) (C : Addr) (cl : List (Str × Addr)) (fp : List Addr), PG (X.blk s H scope (compEnvC scope cl C X.env) fp) tg (upG X.K ts g))
    (ht : ∀ (G0 : Hp) (s : Shared) (H : Hp) (C : Addr) (cl : List (Str × Addr)) (fp : List Addr), PTs (X.blk s H scope (compEnvC scope cl C X.env) fp) ifs (upT X.K G0 WF tt))
    (he : ∀ (G0 : Hp) (s : Shared) (H : Hp) (C : Addr) (cl : List (Str × Addr)) (fp : List Addr), PE (X.blk s H scope (compEnvC scope cl C X.env) fp) elt (up X.K G0 WF te)) (hs : ∀ x, foldedSetIterable iter X.env x = pure x) :
    PS X (.Assign [.Name y py] (.ListComp elt [⟨tg, iter, ifs, 0⟩] scope pos) spos) (upS X.K G0 W (zsSetL mu (zLc zi g tt te (own.map (·.2))) i)) :=
  PS.imp (ps_setLc hc hN hy hyl hsw hi ok hg (fun s H C cl fp => PTs.ex fun G0 => ht G0 s H C cl fp) (fun s H C cl fp => PE.ex fun G0 => he G0 s H C cl fp) hs) fun D σ H h => by
  obtain ⟨z, M, G, Dz, Ez, s, xl, t, k⟩ := h
  refine tLc_up (Q := fun x H1 => L2.gName i x σ H1 D.nx) hts ⟨z, M, G, _, Ez, s, xl, t, fun xs M' G' H' p vs e1 s1 hp r1 q1 => ?_⟩
  obtain ⟨hz, q1⟩ := q1
  show D.nx (σ.set i (some (.ref p))) _
  cases mu with
  | true => exact k.nx _ _ _ _ _ ((s1.news hp (.lst r1 hz)).set (.ref p)) ((by simpa using q1 : ∀ p, M' p = none → Dz.nx (z.set i (some (.ref p))) (mset M' p (.lst xs))) p (s1.nofree hp))
  | false =>
    obtain ⟨s', e⟩ := s1.froz (o := .lst vs) hp
    exact k.nx _ _ _ _ _ (s'.set (.lst upd_same (r1.mono e) hz)) (by simpa using q1)

/-! ### calls of the text's defs -/
abbrev ZX := Addr → List (Str × PV) → Mem → Prop
abbrev ZSp := List PV → Mem → ZK → ZX → Prop
def liftSp (K : Frag) (n : Nat) (sp : ZSp) : Sp := fun vs H Q E => ∃ G xs M Qz Ez, Same G H ∧ MemOk K G M H ∧ RepA K G xs vs ∧ vs.length = n ∧ sp xs M Qz Ez ∧
  (∀ x M' G' H' v, Same G G' → Same G' H' → MemOk K G' M' H' → Rep K G' x v → Qz x M' → Q v H') ∧
  (∀ C fs M' G' H' d, Same G G' → Same G' H' → MemOk K G' M' H' → RepX K G' fs d H' → Ez C fs M' → E (.ref C) d H')
structure Tx where
  P : Program
  w : World
  K : Frag
  mg : Str → Option Value
  base : Heap
def ZFn (T : Tx) (k : Nat) (fa : Addr) (fd : FuncData) (ps : List Str) (sp : ZSp) : Prop := Binds T.K fd ps [] ∧ FnOk T.P T.w T.K T.mg T.base (CX T.P T.w) k fa fd ps (liftSp T.K ps.length sp)
/-- the def at fa, called -/
def ZAt (T : Tx) (k : Nat) (fa : Addr) (xs : List PV) (M : Mem) (Q : ZK) (E : ZX) : Prop := ∃ fd ps sp, ZFn T k fa fd ps sp ∧ xs.length = ps.length ∧ sp xs M Q E
def ZCall (T : Tx) (k : Nat) (f : Str) (xs : List PV) (M : Mem) (Q : ZK) (E : ZX) : Prop := ∃ fa, T.mg f = some (.ref fa) ∧ ZAt T k fa xs M Q E
def zCall (T : Tx) (k : Nat) (f : Str) (zs : ZTA) : ZTE := fun E z M Q => zs E z M fun xs M1 => ZCall T k f xs M1 Q fun C fs M2 => E C fs z M2
theorem starEach_cons {e : Expr} {es : List Expr} {env : Env} (h : ∀ x p, e ≠ .Starred x p) : starEach (e :: es) env = (false, eval e env) :: starEach es env := by
  cases e with
  | Starred x p => exact absurd rfl (h x p)
  | _ => rfl
def noStar : Expr → Bool
  | .Starred _ _ => false
  | _ => true
theorem noStar_ne {e : Expr} (h : noStar e = true) : ∀ x p, e ≠ .Starred x p := fun x p q => by subst q; cases h
theorem backTo_any {pos : Pos} {env : Env} : ∀ {es : List Expr}, es.all noStar = true → (backTo pos (starEach es env)).any (·.1) = false
  | [], _ => rfl
  | e :: es, h => by
    rw [List.all_cons, Bool.and_eq_true] at h
    rw [starEach_cons (noStar_ne h.1)]
    exact backTo_any (es := es) h.2
theorem ZAt.run {T : Tx} {k : Nat} {fa : Addr} {pins : List (Addr × Obj)} {σ : L2.St} {H : Hp} {s : Shared} {Q : VK} {vs : List V} {us : List Value} {xs : List PV} {z : ZSt} {M : Mem} {G : Hp} {Qz : ZK} {Ez : ZE}
    (hP : X.prog = T.P) (hw : X.w = T.w) (hK : X.K = T.K) (hmg : X.mg = T.mg) (hb : X.base = T.base) (hr : Room k X.A) (tk : Takes X W) (I : Inv X pins σ H s) (rv : Vals vs us) (s0 : ZS X.K G0 z M G σ H) (xl : XLe X.K G0 W Ez) (r : RepA X.K G xs vs)
    (h : ZAt T k fa xs M Qz fun C fs M2 => Ez C fs z M2) (kq : ∀ x M' G' H' v, Same G G' → ZS X.K G0 z M' G' σ H' → Rep X.K G' x v → Qz x M' → Q v H') :
    wpAny (model X.prog X.w) X.A (call (.ref fa) us) (EP X pins σ Q) X.xe s := by
  obtain ⟨P, w, K, mg, base⟩ := T
  dsimp only at hP hw hK hmg hb
  subst hP hw hK hmg hb
  obtain ⟨fd, ps, sp, ⟨hB, F⟩, hl, hs⟩ := h
  refine run_fnS (E := WE W) F hr hB (passAt tk σ) I rv ⟨G, xs, M, Qz, _, s0.sub, s0.mem, r, by rw [← r.length]; exact hl, hs, fun x M' G' H' v e1 e2 m r q => kq x M' G' H' v e1 ⟨s0.le.trans e1, e2, m, s0.len, fun i x hx => ?_⟩ r q, fun C fs M' G' H' d e1 e2 m r q => xl C fs z M' G' σ H' d ⟨s0.le.trans e1, e2, m, s0.len, fun i x hx => ?_⟩ r q⟩
  · obtain ⟨v, h1, h2⟩ := s0.slot i x hx
    exact ⟨v, h1, h2.mono e1⟩
  · obtain ⟨v, h1, h2⟩ := s0.slot i x hx
    exact ⟨v, h1, h2.mono e1⟩
theorem z_call {T : Tx} {k : Nat} {f : Str} {fa : Addr} {zs : ZTA} (hP : X.prog = T.P) (hw : X.w = T.w) (hK : X.K = T.K) (hmg : X.mg = T.mg) (hb : X.base = T.base) (hr : Room k X.A) (tk : Takes X W) (hg : Gl X f) (hm : T.mg f = some (.ref fa))
    (hk : PySem.W.keepIn T.K (.ref fa) = true) (ha : PA X (e :: es) (upA X.K G0 W zs)) (hst : (e :: es).all noStar = true) (hdb : (f == ("__debug__" : Str)) = false) : PE X (.Call (.Name f p) (e :: es) [] pos) (up X.K G0 W (zCall T k f zs)) := by
  refine ⟨fun pins s σ H Q I h => ?_⟩
  obtain ⟨z, M, G, Qz, Ez, s0, xl, t, kq⟩ := h
  refine wpAny_Call_Name_kw (ld_glob I hg (by rw [hmg]; exact hm) ?_ hdb)
  have hA : upA X.K G0 W zs σ H (fun vs H1 => ∃ xs M1 G1, Same G G1 ∧ ZS X.K G0 z M1 G1 σ H1 ∧ RepA X.K G1 xs vs ∧ ZCall T k f xs M1 Qz fun C fs M2 => Ez C fs z M2) :=
    ⟨z, M, G, _, Ez, s0, xl, t, fun xs M1 G1 H1 vs e1 s1 r1 q1 => ⟨xs, M1, G1, e1, s1, r1, q1⟩⟩
  have hk' : PySem.W.keepIn X.K (.ref fa) = true := by rw [hK]; exact hk
  rw [List.all_cons, Bool.and_eq_true] at hst
  refine PySem.W.callWith_K (h₀ := X.base) I.ok.mod.kin hk' (thn (ha.run pos pins s σ H _ I hA) fun us s1 ⟨vs, H1, I1, r, xs, M1, G1, e1, s1', r1, fa', hm', q1⟩ => ⟨I1.kIn, ?_⟩) (starEach_cons (noStar_ne hst.1)) (backTo_any hst.2)
  rw [hm] at hm'
  cases hm'
  exact ZAt.run hP hw hK hmg hb hr tk I1 r s1' xl r1 q1 fun x M' G' H' v e s r q => kq x M' G' H' v (e1.trans e) s r q
theorem z_call0 {T : Tx} {k : Nat} {f : Str} {fa : Addr} (hP : X.prog = T.P) (hw : X.w = T.w) (hK : X.K = T.K) (hmg : X.mg = T.mg) (hb : X.base = T.base) (hr : Room k X.A) (tk : Takes X W) (hg : Gl X f) (hm : T.mg f = some (.ref fa))
    (hk : PySem.W.keepIn T.K (.ref fa) = true) (hdb : (f == ("__debug__" : Str)) = false) : PE X (.Call (.Name f p) [] [] pos) (up X.K G0 W (zCall T k f zNil)) := by
  refine ⟨fun pins s σ H Q I h => ?_⟩
  obtain ⟨z, M, G, Qz, Ez, s0, xl, t, kq⟩ := h
  refine wpAny_Call_Name_kw (ld_glob I hg (by rw [hmg]; exact hm) ?_ hdb)
  have hk' : PySem.W.keepIn X.K (.ref fa) = true := by rw [hK]; exact hk
  obtain ⟨fa', hm', q1⟩ := t
  rw [hm] at hm'
  cases hm'
  exact PySem.W.callWith_K0 I.kIn hk' (ZAt.run hP hw hK hmg hb hr tk I .nil s0 xl .nil q1 kq)
end

/-! ### a def, by its body -/
theorem FnOk_len {K : Frag} {n : Nat} {sp : ZSp} {vs : List V} {H : Hp} {Q : VK} {E : XK} (h : liftSp K n sp vs H Q E) : vs.length = n := by
  obtain ⟨_, _, _, _, _, _, _, _, h, _⟩ := h
  exact h
def subM (M' M : Mem) : Prop := ∀ a o, M' a = some o → M a = some o
def zstart (N : List Str) (xs : List PV) : ZSt := xs.map some ++ List.replicate (N.length - xs.length) none
/-- what a def's body is asked -/
def zEnds (Q : ZK) : ZEnds := { nx := fun _ M => ∃ M', subM M' M ∧ Q .non M', rt := fun x M => ∃ M', subM M' M ∧ Q x M' }
def zsp (N : List Str) (t : ZTS) : ZSp := fun xs M Q E => t (fun C fs _ M' => E C fs M') (zEnds Q) (zstart N xs) M
theorem zfn_of {T : Tx} {k : Nat} {x qual : Str} {st : Stmt} {fa : Addr} {fd : FuncData} {N ps : List Str} {t : ZTS} (F : Fun T.K x qual st fa fd) (S : FnScope N ps (defScope st)) (hB : Binds T.K fd ps [])
    (hbody : ∀ (X : Cx) (W : WX) (G0 : Hp), X.prog = T.P → X.w = T.w → X.K = T.K → X.mg = T.mg → X.base = T.base → X.N = N → X.env.scope = defScope st → (∀ y, X.fn y = true) → Room k X.A → X.calm = true → Takes X W → PassesOwn (model X.prog X.w) X.A X.env X.xe →
      X.stack = X.env :: X.outer → X.env.frame = some X.env.locals → PSs X (defBody st) (upS X.K G0 W t)) : ZFn T (k + 1) fa fd ps (zsp N t) := by
  refine ⟨hB, F.okX S (fun vs H Q E h => FnOk_len h) fun cdv A outer s H vs Q E hr h => ?_⟩
  obtain ⟨G, xs, M, Qz, Ez, e1, m1, r1, hl, hs, hq, he⟩ := h
  let X := cxOf (CX T.P T.w) T.P T.w T.K T.mg T.base N qual (defScope st) fa cdv A outer s H E
  have tk : Takes X (fun cls d _ H => E cls d H) := takes_of rfl rfl rfl rfl
  refine ⟨_, hbody X _ G rfl rfl rfl rfl rfl rfl rfl (fun _ => rfl) hr rfl tk (passes_of rfl) rfl rfl, ?_⟩
  refine ⟨zstart N xs, M, G, zEnds Qz, _, ⟨Same.refl _, e1, m1, ?_, fun i x hx => ?_⟩, fun C fs z M' G' σ' H' d s' r' q' => he C fs M' G' H' d s'.le s'.sub s'.mem r' q', hs, ?_⟩
  · unfold zstart L2.start
    rw [List.length_append, List.length_append, List.length_map, List.length_map, List.length_replicate, List.length_replicate, r1.length]
  · unfold zstart at hx
    unfold L2.start
    by_cases hi : i < xs.length
    · rw [List.getElem?_append_left (by simpa using hi), List.getElem?_map] at hx
      rw [List.getElem?_append_left (by simpa [← r1.length] using hi), List.getElem?_map]
      cases e : xs[i]? with
      | none => rw [e] at hx; cases hx
      | some y =>
        rw [e] at hx
        cases hx
        obtain ⟨v, h1, h2⟩ := r1.get e
        exact ⟨v, by rw [h1]; rfl, h2⟩
    · rw [List.getElem?_append_right (by simpa using hi), List.getElem?_replicate] at hx
      split at hx <;> cases hx
  · have drop : ∀ {z : ZSt} {M1 M' : Mem} {G' : Hp} {σ' : L2.St} {H' : Hp}, ZS T.K G z M1 G' σ' H' → subM M' M1 → MemOk T.K G' M' H' := fun s' hm a o q => s'.mem a o (hm a o q)
    refine ⟨fun z M1 G' σ' H' s' q => ?_, fun z x M1 G' σ' H' v s' r q => ?_, fun z M1 G' σ' H' s' q => q, fun z M1 G' σ' H' s' q => q⟩
    · obtain ⟨M', hm, q⟩ := q
      exact hq _ M' G' H' _ s'.le s'.sub (drop s' hm) .non q
    · obtain ⟨M', hm, q⟩ := q
      exact hq _ M' G' H' _ s'.le s'.sub (drop s' hm) r q
theorem ZFn.call {T : Tx} {k j : Nat} {f : Str} {fa : Addr} {fd : FuncData} {ps : List Str} {sp : ZSp} {xs : List PV} {M : Mem} {Q : ZK} {E : ZX} (F : ZFn T k fa fd ps sp) (hk : k ≤ j) (hm : T.mg f = some (.ref fa)) (hl : xs.length = ps.length) (h : sp xs M Q E) : ZCall T j f xs M Q E :=
  ⟨fa, hm, fd, ps, sp, ⟨F.1, F.2.mono hk⟩, hl, h⟩
end Zz
end
section
namespace Zz
open PySem PySem.Spec PyProof.Rows L2

/-! ### methods of built-in classes -/
abbrev ZRM := PV → List PV → Mem → ZK → Prop
def upM (K : Frag) (G0 : Hp) (oz : ZRM) : V → List V → Hp → VK → Prop := fun v vs H Q => ∃ z M G σ x xs Qz, ZS K G0 z M G σ H ∧ Rep K G x v ∧ RepA K G xs vs ∧ oz x xs M Qz ∧
  ∀ r M' G' H' w, Same G G' → ZS K G0 z M' G' σ H' → Rep K G' r w → Qz r M' → Q w H'
section
variable {X : Cx} {G0 : Hp} {W : WX} {e a b c o : Expr} {es : List Expr} {za zo : ZTE} {pos p apos cpos : Pos} {K : Frag} {zs : ZTA} {oz : ZRM}
theorem tyP_tyV {G : Hp} {z : ZSt} {M : Mem} {σ : L2.St} {H : Hp} {x : PV} {v : V} {t : String} (s : ZS K G0 z M G σ H) (r : Rep K G x v) (h : tyP M x = some t) (ht : t = "list" ∨ t = "str" ∨ t = "dict") : tyV K t v H := by
  cases r with
  | non => cases h; exact absurd ht (by decide)
  | bl b => cases h; exact absurd ht (by decide)
  | int b => cases h; exact absurd ht (by decide)
  | str b => cases h; rfl
  | tup h1 => cases h; exact absurd ht (by decide)
  | lst h1 => cases h; exact .inl ⟨rfl, _, .inl (.inl (s.sub _ _ h1))⟩
  | rol h1 => cases h; exact .inl ⟨rfl, _, s.sub.seq h1⟩
  | dct h1 => cases h; exact .inr (.inr (.inl ⟨rfl, .inl ⟨_, s.sub _ _ h1⟩⟩))
  | ty n => cases h
  | ref a =>
    have h' : (match M a with
      | some (.lst _) => some "list"
      | some (.dK _) => some "dict"
      | some (.dT _) => some "dict"
      | _ => none) = some t := h
    split at h'
    · rename_i e
      cases h'
      obtain ⟨_, u, h1, h2⟩ := s.mem a _ e
      cases h2
      exact .inl ⟨rfl, _, .inl (.inl h1)⟩
    · rename_i e
      cases h'
      obtain ⟨_, u, h1, h2⟩ := s.mem a _ e
      cases h2
      exact .inr (.inr (.inl ⟨rfl, .inl ⟨_, h1⟩⟩))
    · rename_i e
      cases h'
      obtain ⟨_, u, h1, h2⟩ := s.mem a _ e
      cases h2
      exact .inr (.inr (.inl ⟨rfl, .inr ⟨_, h1⟩⟩))
    · cases h'
def zMt (t : String) (oz : ZRM) (zo : ZTE) (zs : ZTA) : ZTE := fun E z M Q => zo E z M fun x M1 => tyP M1 x = some t ∧ zs E z M1 fun xs M2 => oz x xs M2 Q
theorem backToKw_nil {pos : Pos} {env : Env} : backToKw pos (keywordEach [] env) = [] := rfl
theorem few_ok {pos : Pos} {env : Env} {es : List Expr} (h : es.all noStar = true) (hl : es.length < 20) : ((backTo pos (starEach es env)).all (fun x => !x.1) && (backToKw pos (keywordEach [] env)).all (fun x => x.1.isSome)
      && decide (es.length + ([] : List Keyword).length + (if ([] : List Keyword).isEmpty then 0 else 1) < 30)) = true := by
  have h1 : (backTo pos (starEach es env)).all (fun x => !x.1) = true := by
    clear hl
    induction es with
    | nil => rfl
    | cons e es ih =>
      rw [List.all_cons, Bool.and_eq_true] at h
      rw [starEach_cons (noStar_ne h.1)]
      exact ih h.2
  rw [h1, backToKw_nil]
  simp
  omega
theorem z_mt {t id : String} {name : Str} (pa : PlainAttrs t) (slot : Slot t name id) (hty : typeOf (.builtin id) = pure (.type "method_descriptor")) (hm : MtR X id (upM X.K G0 oz)) (ht : t = "list" ∨ t = "str" ∨ t = "dict")
    (ho : PE X o (up X.K G0 W zo)) (ha : PA X (e :: es) (upA X.K G0 W zs)) (hbase : attributeBase o name X.env (eval o X.env) = eval o X.env) (hst : (e :: es).all noStar = true) (hl : (e :: es).length < 20) (hline : (apos.endLine == cpos.line) = true) :
    PE X (.Call (.Attribute o name apos) (e :: es) [] cpos) (up X.K G0 W (zMt t oz zo zs)) := by
  have h2 : noStar e = true ∧ es.all noStar = true := by rw [List.all_cons, Bool.and_eq_true] at hst; exact hst
  refine PE.imp (pe_bm pa slot hty hm ho ha hbase (few_ok hst hl) hline (starEach_cons (noStar_ne h2.1)) (backTo_any h2.2)) fun σ H Q h => ?_
  obtain ⟨z, M, G, Qz, Ez, s, xl, t, k⟩ := h
  exact ⟨z, M, G, _, Ez, s, xl, t, fun x M1 G1 H1 v e1 s1 r1 q1 => ⟨tyP_tyV s1 r1 q1.1 ht, z, M1, G1, _, Ez, s1, xl, q1.2, fun xs M2 G2 H2 vs e2 s2 r2 q2 =>
    ⟨z, M2, G2, σ, x, xs, Qz, s2, r1.mono e2, r2, q2, fun r M' G' H' w e3 s3 r3 q3 => k _ _ _ _ _ (e1.trans (e2.trans e3)) s3 r3 q3⟩⟩⟩
theorem z_mt0 {t id : String} {name : Str} (pa : PlainAttrs t) (slot : Slot t name id) (hty : typeOf (.builtin id) = pure (.type "method_descriptor")) (hm : MtR X id (upM X.K G0 oz)) (ht : t = "list" ∨ t = "str" ∨ t = "dict")
    (ho : PE X o (up X.K G0 W zo)) (hbase : attributeBase o name X.env (eval o X.env) = eval o X.env) (hline : (apos.endLine == cpos.line) = true) :
    PE X (.Call (.Attribute o name apos) [] [] cpos) (up X.K G0 W (zMt t oz zo zNil)) := by
  refine PE.imp (pe_bm0 pa slot hty hm ho hbase hline) fun σ H Q h => ?_
  obtain ⟨z, M, G, Qz, Ez, s, xl, t, k⟩ := h
  exact ⟨z, M, G, _, Ez, s, xl, t, fun x M1 G1 H1 v e1 s1 r1 q1 => ⟨tyP_tyV s1 r1 q1.1 ht,
    ⟨z, M1, G1, σ, x, [], Qz, s1, r1, .nil, q1.2, fun r M' G' H' w e3 s3 r3 q3 => k _ _ _ _ _ (e1.trans e3) s3 r3 q3⟩⟩⟩

/-- a watched list -/
theorem ref_ok {G : Hp} {z : ZSt} {M : Mem} {σ : L2.St} {H : Hp} {x : PV} {v : V} {ys : List PV} {a : Addr} (s : ZS K G0 z M G σ H) (r : Rep K G (.ref a) v) (h : refL M a = some ys) : v = .ref a ∧ ∃ vs, H a = some (.lst vs) ∧ RepA K G ys vs ∧ ys.length ≤ sizeLine := by
  cases r
  obtain ⟨_, u, h1, h2⟩ := s.mem a _ (refL_ok h)
  cases h2 with
  | lst h2 h3 => exact ⟨rfl, _, h1, h2, h3⟩
def wL (M : Mem) (x : PV) (k : Addr → List PV → Prop) : Prop := match x with
  | .ref a => (match refL M a with
    | some ys => k a ys
    | none => False)
  | _ => False
theorem wL_ok {G : Hp} {z : ZSt} {M : Mem} {σ : L2.St} {H : Hp} {x : PV} {v : V} {k : Addr → List PV → Prop} (s : ZS K G0 z M G σ H) (r : Rep K G x v) (h : wL M x k) : ∃ a ys vs, v = .ref a ∧ M a = some (.lst ys) ∧ H a = some (.lst vs) ∧ RepA K G ys vs ∧ ys.length ≤ sizeLine ∧ k a ys := by
  unfold wL at h
  split at h
  · split at h
    · rename_i a _ ys e
      obtain ⟨rfl, vs, h1, h2, h3⟩ := ref_ok (x := .ref a) s r e
      exact ⟨a, ys, vs, rfl, refL_ok e, h1, h2, h3, h⟩
    · exact h.elim
  · exact h.elim
def zAppend : ZRM := fun x xs M Q => match xs with
  | [y] => wL M x fun a ys => ys.length < sizeLine ∧ Q .non (mset M a (.lst (ys ++ [y])))
  | _ => False
theorem append_ok : MtR X "list.append" (upM X.K G0 zAppend) := by
  intro pins s σ' H v vs vv us Q I rv rvs h
  obtain ⟨z, M, G, σ, x, xs, Qz, s0, rx, rxs, h, k⟩ := h
  unfold zAppend at h
  split at h
  · cases rxs with
    | cons r1 r2 =>
      cases r2
      obtain ⟨a, ys, ws, rfl, e1, h1, h2, h3, hz, q⟩ := wL_ok s0 rx h
      exact mt_append pins s σ' H _ _ vv us Q I rv rvs ⟨a, ws, _, rfl, rfl, h1, by rw [← h2.length]; exact hz, k _ _ _ _ _ (Same.refl _) (s0.writ e1 (.lst (h2.append (.cons r1 .nil)) (by rw [List.length_append]; exact hz))) .non q⟩
  · exact h.elim
def zExtend : ZRM := fun x xs M Q => match xs with
  | [y] => wL M x fun a ys => ∃ zs, asW M y = some zs ∧ ys.length + zs.length ≤ sizeLine ∧ Q .non (mset M a (.lst (ys ++ zs)))
  | _ => False
theorem extend_ok : MtR X "list.extend" (upM X.K G0 zExtend) := by
  intro pins s σ' H v vs vv us Q I rv rvs h
  obtain ⟨z, M, G, σ, x, xs, Qz, s0, rx, rxs, h, k⟩ := h
  unfold zExtend at h
  split at h
  · cases rxs with
    | cons r1 r2 =>
      cases r2
      obtain ⟨a, ys, ws, rfl, e1, h1, h2, h3, zs, ez, hz, q⟩ := wL_ok s0 rx h
      obtain ⟨b, us', rfl, g1, g2, g3⟩ := asW_ok s0 r1 ez
      exact mt_extend pins s σ' H _ _ vv us Q I rv rvs ⟨a, b, ws, us', rfl, rfl, h1, g1, by rw [← h2.length, ← g2.length]; exact hz, k _ _ _ _ _ (Same.refl _) (s0.writ e1 (.lst (h2.append g2) (by rw [List.length_append]; exact hz))) .non q⟩
  · exact h.elim
def zInsert : ZRM := fun x xs M Q => match xs with
  | [.int i, y] => wL M x fun a ys => ys.length < sizeLine ∧ 0 ≤ i ∧ i < 2 ^ 63 ∧ Q .non (mset M a (.lst (ys.take i.toNat ++ [y] ++ ys.drop i.toNat)))
  | _ => False
theorem insert_ok : MtR X "list.insert" (upM X.K G0 zInsert) := by
  intro pins s σ' H v vs vv us Q I rv rvs h
  obtain ⟨z, M, G, σ, x, xs, Qz, s0, rx, rxs, h, k⟩ := h
  unfold zInsert at h
  split at h
  · cases rxs with
    | cons r1 r2 =>
      cases r2 with
      | cons r2 r3 =>
      cases r3
      cases r1
      obtain ⟨a, ys, ws, rfl, e1, h1, h2, h3, hz, b1, b2, q⟩ := wL_ok s0 rx h
      refine mt_insert pins s σ' H _ _ vv us Q I rv rvs ⟨a, ws, _, _, rfl, rfl, h1, by rw [← h2.length]; exact hz, b1, b2, k _ _ _ _ _ (Same.refl _) (s0.writ e1 (.lst (((h2.take _).append (.cons r2 .nil)).append (h2.drop _)) ?_)) .non q⟩
      rw [List.length_append, List.length_append, List.length_take, List.length_drop, List.length_singleton]
      omega
  · exact h.elim
def zPop : ZRM := fun x xs M Q => match xs with
  | [] => wL M x fun a ys => ∃ y, ys[ys.length - 1]? = some y ∧ Q y (mset M a (.lst ys.dropLast))
  | [.int i] => wL M x fun a ys => -(2 ^ 63) ≤ i ∧ i < 2 ^ 63 ∧ ∃ j y, seqIndex? i ys.length = some j ∧ ys[j]? = some y ∧ Q y (mset M a (.lst (ys.eraseIdx j)))
  | _ => False
theorem pop_ok : MtR X "list.pop" (upM X.K G0 zPop) := by
  intro pins s σ' H v vs vv us Q I rv rvs h
  obtain ⟨z, M, G, σ, x, xs, Qz, s0, rx, rxs, h, k⟩ := h
  unfold zPop at h
  split at h
  · cases rxs
    obtain ⟨a, ys, ws, rfl, e1, h1, h2, h3, y, hy, q⟩ := wL_ok s0 rx h
    obtain ⟨v, g1, g2⟩ := h2.get hy
    exact mt_pop pins s σ' H _ _ vv us Q I rv rvs ⟨a, ws, v, rfl, rfl, h1, by rw [← h2.length]; exact g1, k _ _ _ _ _ (Same.refl _) (s0.writ e1 (.lst h2.dropLast (by rw [List.length_dropLast]; omega))) g2 q⟩
  · cases rxs with
    | cons r1 r2 =>
      cases r2; cases r1
      obtain ⟨a, ys, ws, rfl, e1, h1, h2, h3, b1, b2, j, y, hj, hy, q⟩ := wL_ok s0 rx h
      obtain ⟨v, g1, g2⟩ := h2.get hy
      refine mt_popAt pins s σ' H _ _ vv us Q I rv rvs ⟨a, ws, _, j, v, rfl, rfl, h1, b1, b2, by rw [← h2.length]; exact hj, g1, k _ _ _ _ _ (Same.refl _) (s0.writ e1 (.lst (h2.eraseIdx j) (Nat.le_trans (List.length_eraseIdx_le _ _) h3))) g2 q⟩
  · exact h.elim
def zReverse : ZRM := fun x xs M Q => match xs with
  | [] => wL M x fun a ys => Q .non (mset M a (.lst ys.reverse))
  | _ => False
theorem reverse_ok : MtR X "list.reverse" (upM X.K G0 zReverse) := by
  intro pins s σ' H v vs vv us Q I rv rvs h
  obtain ⟨z, M, G, σ, x, xs, Qz, s0, rx, rxs, h, k⟩ := h
  unfold zReverse at h
  split at h
  · cases rxs
    obtain ⟨a, ys, ws, rfl, e1, h1, h2, h3, q⟩ := wL_ok s0 rx h
    exact mt_reverse pins s σ' H _ _ vv us Q I rv rvs ⟨a, ws, rfl, rfl, h1, k _ _ _ _ _ (Same.refl _) (s0.writ e1 (.lst h2.reverse (by rw [List.length_reverse]; exact h3))) .non q⟩
  · exact h.elim
/-! ### stores -/
abbrev ZR3 := PV → PV → PV → Mem → (Mem → Prop) → Prop
def upSet (K : Frag) (G0 : Hp) (oz : ZR3) : TSet := fun o i v H Q => ∃ z M G σ x y w Qz, ZS K G0 z M G σ H ∧ Rep K G x o ∧ Rep K G y i ∧ Rep K G w v ∧ oz x y w M Qz ∧ ∀ M' G' H', Same G G' → ZS K G0 z M' G' σ H' → Qz M' → Q H'
def dPut (M : Mem) (a : Addr) (x w : PV) (k : Mem → Prop) : Prop :=
  match M a with
  | some (.dK kvs) => ∃ c, keyP x = some c ∧ kvs.length < sizeLine ∧ k (mset M a (.dK (putP kvs c w)))
  | some (.dT kvs) => ∃ xs c, x = .tup xs ∧ keysP xs = some c ∧ kvs.length < sizeLine ∧ k (mset M a (.dT (putP kvs c w)))
  | _ => False
def zSet : ZR3 := fun x y w M Q => if isDct M x = true then ∃ a, x = .ref a ∧ dPut M a y w Q else wL M x fun a ys => ∃ i j, y = .int i ∧ ixN ys.length i = some j ∧ Q (mset M a (.lst (ys.set j w)))
theorem set_dctK (hu : X.A.units + 1 < cLine) {pins : List (Addr × Obj)} {s : Shared} {σ : L2.St} {H H' : Hp} {a : Addr} {y v : V} {ov iv u : Value} {Q : Hp → Prop} (I : Inv X pins σ H s) (ro : RelV (.ref a) ov) (ri : RelV y iv) (rv : RelV v u) (g : DPut H a y v H') (q : Q H') :
    wpAny (model X.prog X.w) X.A (setItem ov iv u) (fun _ s' => ∃ H', Inv X pins σ H' s' ∧ Q H') X.xe s := by
  cases ro
  exact d_setItem hu I g ri rv fun s4 I4 => ⟨H', I4, q⟩
theorem set_ok (hu : X.A.units + 1 < cLine) : PSet X (upSet X.K G0 zSet) := by
  intro pins s σ' H o i v ov iv u Q I ro ri rv h
  obtain ⟨z, M, G, σ, x, y, w, Qz, s0, rx, ry, rw', h, k⟩ := h
  unfold zSet at h
  split at h
  · obtain ⟨a, rfl, h⟩ := h
    cases rx
    unfold dPut at h
    split at h
    · rename_i kvs e
      obtain ⟨c, e1, hz, q⟩ := h
      obtain ⟨_, uu, h1, h2⟩ := s0.mem a _ e
      cases h2 with
      | dK h2 =>
      have ey := keyP_ok ry e1
      subst ey
      exact set_dctK hu I ro ri rv (DPut.k h1 (by rw [← h2.length]; exact hz)) (k _ _ _ (Same.refl _) (s0.writ e (.dK (h2.put rw'))) q)
    · rename_i kvs e
      obtain ⟨xs, c, rfl, e1, hz, q⟩ := h
      obtain ⟨_, uu, h1, h2⟩ := s0.mem a _ e
      obtain ⟨b, vs, rfl, b1, b2, _⟩ := asT_ok s0 ry rfl
      cases h2 with
      | dT h2 =>
      have ey := keysP_ok b2 e1
      subst ey
      exact set_dctK hu I ro ri rv (DPut.t h1 b1 (by rw [← h2.length]; exact hz)) (k _ _ _ (Same.refl _) (s0.writ e (.dT (h2.put rw'))) q)
    · exact h.elim
  · obtain ⟨a, ys, ws, rfl, e1, h1, h2, h3, n, j, rfl, hj, q⟩ := wL_ok s0 rx h
    cases ry
    exact set_list pins s σ' H _ _ _ ov iv u Q I ro ri rv ⟨a, ws, n, j, rfl, rfl, h1, by rw [← h2.length]; exact hj, k _ _ _ (Same.refl _) (s0.writ e1 (.lst (h2.set rw' j) (by rw [List.length_set]; exact h3))) q⟩
/-- o[i] = e -/
def zsSet (ze zo zi : ZTE) : ZTS := fun E D z M => ze E z M fun w M1 => zo E z M1 fun x M2 => zi E z M2 fun y M3 => zSet x y w M3 fun M4 => D.nx z M4
theorem s_set_ix {v i : Expr} {ze zi : ZTE} {p1 : Pos} (hu : X.A.units + 1 < cLine) (he : PE X v (up X.K G0 W ze)) (ho : PE X o (up X.K G0 W zo)) (hi : PE X i (up X.K G0 W zi))
    (ha : ∀ v, assign (.Subscript o i p1) X.env v = (do
      let ov ← holding [v] (eval o X.env)
      let iv ← holding [v, ov] (eval i X.env)
      standAt p1
      holding [v, ov, iv] (setItem ov iv v)
      release [v, ov, iv] [])) (hs : swapsWithSole [.Subscript o i p1] v pos.line X.env = pure false) (hw : swappedStores [.Subscript o i p1] v X.env = pure none) : PS X (.Assign [.Subscript o i p1] v pos) (upS X.K G0 W (zsSet ze zo zi)) :=
  PS.imp (ps_asg he (pg_sub ho hi (set_ok hu) ha) hs hw rfl) fun D σ H h => by
  obtain ⟨z, M, G, Dz, Ez, s, xl, t, k⟩ := h
  exact ⟨z, M, G, _, Ez, s, xl, t, fun w M1 G1 H1 v e1 s1 r1 q1 => ⟨z, M1, G1, _, Ez, s1, xl, q1, fun x M2 G2 H2 o e2 s2 r2 q2 => ⟨z, M2, G2, _, Ez, s2, xl, q2, fun y M3 G3 H3 i e3 s3 r3 q3 =>
    ⟨z, M3, G3, σ, x, y, w, _, s3, r2.mono e3, r3, r1.mono (e2.trans e3), q3, fun M4 G4 H4 e4 s4 q4 => k.nx _ _ _ _ _ s4 q4⟩⟩⟩⟩

/-! ### xs[::-1], new dicts -/
def zRev : ZR1 := fun x M Q => ∃ xs, asL M x = some xs ∧ Q (.lst xs.reverse) M
theorem z_rev {kk : Nat} {p1 p2 p3 : Pos} (ha : PE X e (up X.K G0 W za)) : PE X (.Subscript e (.Slice none none (some (.UnaryOp .USub (.Constant (.int 1) kk p1) p2)) p3) pos) (up X.K G0 W (z1 zRev za)) :=
  PE.imp (pe_revL ha) fun σ H Q h => by
    obtain ⟨z, M, G, Qz, Ez, s, xl, t, k⟩ := h
    refine ⟨z, M, G, _, Ez, s, xl, t, fun x M1 G1 H1 v e1 s1 r1 q1 => ?_⟩
    obtain ⟨xs, e, q⟩ := q1
    obtain ⟨a, vs, rfl, a1, a2, a3⟩ := asL_ok s1 r1 e
    refine ⟨a, vs, rfl, a1, fun p hp => ?_⟩
    obtain ⟨s', e'⟩ := s1.froz (o := .lst vs.reverse) hp
    exact k _ _ _ _ _ (e1.trans e') s' (.lst upd_same (a2.reverse.mono e') (by rw [List.length_reverse]; exact a3)) q
def zDct0 : ZTE := fun _ _ M Q => Q (.dct []) M
theorem z_dct0 : PE X (.Dict [] [] pos) (up X.K G0 W zDct0) := PE.imp pe_dnewK fun σ H Q h => by
  obtain ⟨z, M, G, Qz, Ez, s, xl, t, k⟩ := h
  intro p hp
  obtain ⟨s', e'⟩ := s.froz (o := .dK []) hp
  exact k _ _ _ _ _ e' s' (.dct upd_same .nil) t
def zDctK : ZTE := fun _ _ M Q => ∀ p, M p = none → Q (.ref p) (mset M p (.dK []))
theorem z_dctK : PE X (.Dict [] [] pos) (up X.K G0 W zDctK) := PE.imp pe_dnewK fun σ H Q h => by
  obtain ⟨z, M, G, Qz, Ez, s, xl, t, k⟩ := h
  intro p hp
  exact k _ _ _ _ _ (Same.refl _) (s.news hp (.dK .nil)) (.ref p) (t p (s.nofree hp))
def zDctT : ZTE := fun _ _ M Q => ∀ p, M p = none → Q (.ref p) (mset M p (.dT []))
theorem z_dctT : PE X (.Dict [] [] pos) (up X.K G0 W zDctT) := PE.imp pe_dnewT fun σ H Q h => by
  obtain ⟨z, M, G, Qz, Ez, s, xl, t, k⟩ := h
  intro p hp
  exact k _ _ _ _ _ (Same.refl _) (s.news hp (.dT .nil)) (.ref p) (t p (s.nofree hp))
theorem disp1 {a b : Expr} {kc : Key} {vc : V} {x y : PV} (ha : PE X a (tC (kV kc))) (hb : PE X b (tC vc)) (ry : ∀ G, Rep X.K G y vc) : PE X (.Dict [some a] [b] pos) (up X.K G0 W fun _ _ M Q => Q (.dct [(kc, y)]) M) :=
  PE.imp (pe_disp (pps_cons ha hb pps_nil) rfl rfl (fun z => by cases z) (by show 1 ≤ 15; decide)) fun σ H Q h => by
  obtain ⟨z, M, G, Qz, Ez, s, xl, t, k⟩ := h
  intro p hp
  refine ⟨upd_same, [(kc, vc)], rfl, by show 1 ≤ 15; decide, ?_⟩
  rw [upd_upd]
  obtain ⟨s', e'⟩ := s.froz (o := .dK (mergeK [] [(kc, vc)])) hp
  exact k _ _ _ _ _ e' s' (.dct upd_same (.cons (ry _) .nil)) t
end
end Zz
end
section
namespace Zz
open PySem PySem.Spec PyProof.Rows L2

/-! ### the text, written small -/
inductive IC where
  | int (n : Int) | str (s : Str)
  deriving DecidableEq
inductive BF where
  | len | all | any | int | tuple | max | min | abs
  deriving DecidableEq
inductive LM where
  | append | extend | insert | pop | reverse
  deriving DecidableEq
inductive IG where
  | nm (i : Nat) | tup (is : List Nat)
mutual
inductive IE where
  | var (i : Nat) | int (n : Int) | str (s : Str) | bl (b : Bool) | non | gc (x : Str) (c : IC)
  | bin (o : Operator) (a b : IE) | neg (a : IE) | cmp (o : CmpOp) (a b : IE) | chain (o o' : CmpOp) (a b c : IE) | notV (a : IE) | bo (o : BoolOp) (es : IEs) | ife (t a b : IE)
  | tup (es : IEs) | ix (a b : IE) | sl (a : IE) (lo hi : IO) | bf (f : BF) (es : IEs) | isi (a : IE) (c : String) | call (f : Str) (es : IEs) | lm (m : LM) (o : IE) (es : IEs) | rev (a : IE) | dct0 | dctK | dctT | dct1 (k v : IC) | fz (l : IA) | mt (l : IA)
inductive IEs where
  | nil | cons (e : IE) (r : IEs)
inductive IO where
  | no | so (e : IE)
inductive IA where
  | lst (es : IEs) | lof (es : IEs) | sl (a : IE) (lo hi : IO) | lc (elt : IE) (g : IG) (it : II) (ifs : IEs) (own : List (Str × Nat))
inductive II where
  | val (e : IE) | rng1 (e : IE) | rng2 (a b : IE) | enum (e : IE)
end
def IC.pv : IC → PV
  | .int n => .int n
  | .str s => .str s
def IC.v : IC → V
  | .int n => .int n
  | .str s => .str s
def IC.key : IC → Key
  | .int n => .inl n
  | .str s => .inr s
def IC.const : IC → Const
  | .int n => .int n
  | .str s => .str s
def IC.ok : IC → Bool
  | .int _ => true
  | .str s => decide (s.length ≤ sizeLine)
def zBF : BF → ZRA
  | .len => zLen
  | .all => zAllAny true
  | .any => zAllAny false
  | .int => zInt
  | .tuple => zTuple
  | .max => zMax
  | .min => zMin
  | .abs => zAbs
def zLM : LM → ZRM
  | .append => zAppend
  | .extend => zExtend
  | .insert => zInsert
  | .pop => zPop
  | .reverse => zReverse
def LM.ty : LM → String
  | .append => "list" | .extend => "list" | .insert => "list" | .pop => "list" | .reverse => "list"
def LM.nm : LM → Str
  | .append => "append" | .extend => "extend" | .insert => "insert" | .pop => "pop" | .reverse => "reverse"
def zGs : List Nat → ZTGs
  | [] => gNil
  | i :: r => gCons (gNm i) (zGs r)
def zG : IG → ZTG
  | .nm i => gNm i
  | .tup is => gTup is.length (zGs is)
def zFalse : ZTT := fun _ _ _ _ => False
section
variable (T : Tx) (k : Nat)
mutual
def zE : IE → ZTE
  | .var i => zVar i
  | .int n => zCst (.int n)
  | .str s => zCst (.str s)
  | .bl b => zCst (.bl b)
  | .non => zCst .non
  | .gc _ c => zCst c.pv
  | .bin o a b => z2 (zBin o) (zE a) (zE b)
  | .neg a => z1 zNeg (zE a)
  | .cmp o a b => z2 (zCmp o) (zE a) (zE b)
  | .chain o o' a b c => zChain (zCmp o) (zCmp o') (zE a) (zE b) (zE c)
  | .notV a => z1 zNotV (zE a)
  | .bo o es => zBoVs o es
  | .ife t a b => zIf (zT t) (zE a) (zE b)
  | .tup es => zTup (zEs es)
  | .ix a b => z2 zIx (zE a) (zE b)
  | .sl a lo hi => zSl (zE a) (zO lo) (zO hi)
  | .bf f es => zCB (zBF f) (zEs es)
  | .isi a c => zCB (zIsi c) (zCons (zE a) (zCons (zCst (.ty c)) zNil))
  | .call f es => zCall T k f (zEs es)
  | .lm m o es => zMt m.ty (zLM m) (zE o) (zEs es)
  | .rev a => z1 zRev (zE a)
  | .dct0 => zDct0
  | .dctK => zDctK
  | .dctT => zDctT
  | .dct1 a b => fun _ _ M Q => Q (.dct [(a.key, b.pv)]) M
  | .fz l => fun E z M Q => zA l E z M fun xs M1 => xs.length ≤ sizeLine ∧ Q (.lst xs) M1
  | .mt l => fun E z M Q => zA l E z M fun xs M1 => xs.length ≤ sizeLine ∧ ∀ p, M1 p = none → Q (.ref p) (mset M1 p (.lst xs))
def zT : IE → ZTT
  | .notV a => zNotT (zT a)
  | .bo o es => zBoTs o es
  | .var i => tOf (zVar i)
  | .int n => tOf (zCst (.int n))
  | .str s => tOf (zCst (.str s))
  | .bl b => tOf (zCst (.bl b))
  | .non => tOf (zCst .non)
  | .gc _ c => tOf (zCst c.pv)
  | .bin o a b => tOf (z2 (zBin o) (zE a) (zE b))
  | .neg a => tOf (z1 zNeg (zE a))
  | .cmp o a b => tOf (z2 (zCmp o) (zE a) (zE b))
  | .chain o o' a b c => tOf (zChain (zCmp o) (zCmp o') (zE a) (zE b) (zE c))
  | .ife _ _ _ => zFalse
  | .tup _ => zFalse
  | .ix a b => tOf (z2 zIx (zE a) (zE b))
  | .sl _ _ _ => zFalse
  | .bf f es => tOf (zCB (zBF f) (zEs es))
  | .isi a c => tOf (zCB (zIsi c) (zCons (zE a) (zCons (zCst (.ty c)) zNil)))
  | .call f es => tOf (zCall T k f (zEs es))
  | .lm m o es => tOf (zMt m.ty (zLM m) (zE o) (zEs es))
  | .rev _ => zFalse
  | .dct0 => zFalse
  | .dctK => zFalse
  | .dctT => zFalse
  | .dct1 _ _ => zFalse
  | .fz _ => zFalse
  | .mt _ => zFalse
def zEs : IEs → ZTA
  | .nil => zNil
  | .cons e r => zCons (zE e) (zEs r)
def zBoVs (o : BoolOp) : IEs → ZTE
  | .nil => fun _ _ _ _ => False
  | .cons a r => match r with
    | .nil => zE a
    | .cons b s => zBoV o (zE a) (zBoVs o (.cons b s))
def zBoTs (o : BoolOp) : IEs → ZTT
  | .nil => zFalse
  | .cons a r => match r with
    | .nil => zT a
    | .cons b s => zBoT o (zT a) (zBoTs o (.cons b s))
def zO : IO → ZTO
  | .no => zNoPart
  | .so e => zPart (zE e)
def zA : IA → ZTA
  | .lst es => fun E z M Q => zEs es E z M fun xs M1 => xs.length ≤ sizeLine ∧ Q xs M1
  | .lof es => zCBL zList (zEs es)
  | .sl a lo hi => zSlL (zE a) (zO lo) (zO hi)
  | .lc elt g it ifs own => zLc (zI it) (zG g) (zIfs ifs) (zE elt) (own.map (·.2))
def zIfs : IEs → ZTT
  | .nil => zYes
  | .cons a r => match r with
    | .nil => zT a
    | .cons _ _ => zFalse
def zI : II → ZTA
  | .val e => zVal (zE e)
  | .rng1 a => zRng1 (zCons (zE a) zNil)
  | .rng2 a b => zRng2 (zCons (zE a) (zCons (zE b) zNil))
  | .enum a => zEnum (zCons (zE a) zNil)
end
end

/-! ### whether it is that text -/
structure CP where
  N : List Str
  sc : Scope
  fn : Str → Bool
  cs : List (Str × IC)
  fs : List Str
def isBlt (c : CP) (x : Str) : Bool := decide (c.sc.names.lookup x = some .globalImplicit)
def visB (sc : Scope) (x : Str) : Bool := decide (sc.names.lookup x = some .local) || decide (sc.names.lookup x = some .cell) || decide (sc.names.lookup x = some .free)
def locB (sc : Scope) (x : Str) : Bool := decide (sc.names.lookup x = some .local) || decide (sc.names.lookup x = some .cell)
def storeB (c : CP) (x : Str) : Bool := locB c.sc x && (c.fn x || decide (c.sc.names.lookup x = some .local))
def BF.nm : BF → Str
  | .len => "len" | .all => "all" | .any => "any" | .int => "int" | .tuple => "tuple" | .max => "max" | .min => "min" | .abs => "abs"
def notSl : Expr → Bool
  | .Slice _ _ _ _ => false
  | _ => true
def chkNm (c : CP) (i : Nat) : Expr → Bool
  | .Name x _ => decide (c.N[i]? = some x) && storeB c x
  | _ => false
def chkNms (c : CP) : List Nat → List Expr → Bool
  | [], [] => true
  | i :: r, e :: es => chkNm c i e && chkNms c r es
  | _, _ => false
def chkG (c : CP) : IG → Expr → Bool
  | .nm i, e => chkNm c i e
  | .tup is, .Tuple es _ _ => chkNms c is es
  | _, _ => false
def IG.slots : IG → List Nat
  | .nm i => [i]
  | .tup is => is
def notCall0 : Expr → Bool
  | .Call (.Name _ _) [] [] _ => false
  | _ => true
def oneE : List Expr → Option Expr
  | [a] => some a
  | _ => none
def oneComp : List Comprehension → Option (Expr × Expr × List Expr)
  | [⟨tg, it, ifs, a⟩] => if a = 0 then some (tg, it, ifs) else none
  | _ => none
theorem oneComp_ok {gs : List Comprehension} {tg it : Expr} {ifs : List Expr} (h : oneComp gs = some (tg, it, ifs)) : gs = [⟨tg, it, ifs, 0⟩] := by
  unfold oneComp at h
  split at h
  · split at h
    · rename_i e; subst e; cases h; rfl
    · cases h
  · cases h
mutual
def chkE (c : CP) : IE → Expr → Bool
  | .var i => fun e => match e with
    | .Name x _ => decide (c.N[i]? = some x) && visB c.sc x && !(x == "__debug__") && !(x == "__classdict__")
    | _ => false
  | .int n => fun e => match e with
    | .Constant (.int m) _ _ => decide (n = m)
    | _ => false
  | .str s => fun e => match e with
    | .Constant (.str t) _ _ => decide (s = t) && decide (s.length ≤ sizeLine)
    | _ => false
  | .bl b => fun e => match e with
    | .Constant (.bool d) _ _ => b == d
    | _ => false
  | .non => fun e => match e with
    | .Constant .none _ _ => true
    | _ => false
  | .gc x q => fun e => match e with
    | .Name y _ => decide (x = y) && decide ((x, q) ∈ c.cs) && q.ok && isBlt c x && !(x == "__debug__")
    | _ => false
  | .bin o a b => fun e => match e with
    | .BinOp a' o' b' _ => decide (o = o') && chkE c a a' && chkE c b b'
    | _ => false
  | .neg a => fun e => match e with
    | .UnaryOp .USub a' _ => chkE c a a'
    | _ => false
  | .cmp o a b => fun e => match e with
    | .Compare a' [o'] [b'] _ => decide (o = o') && chkE c a a' && chkE c b b' && !(behindInMarks o b')
    | _ => false
  | .chain o p a b d => fun e => match e with
    | .Compare a' [o', p'] [b', d'] _ => decide (o = o') && decide (p = p') && chkE c a a' && chkE c b b' && chkE c d d' && !(behindInMarks p d')
    | _ => false
  | .notV a => fun e => match e with
    | .UnaryOp .Not a' _ => chkE c a a'
    | _ => false
  | .bo o es => fun e => match e with
    | .BoolOp o' es' _ => decide (o = o') && chkEs c es es'
    | _ => false
  | .ife t a b => fun e => match e with
    | .IfExp t' a' b' _ => chkE c t t' && chkE c a a' && chkE c b b'
    | _ => false
  | .tup es => fun e => match e with
    | .Tuple es' _ _ => chkEs c es es'
    | _ => false
  | .ix a b => fun e => match e with
    | .Subscript a' b' _ => chkE c a a' && chkE c b b' && notSl b'
    | _ => false
  | .sl a lo hi => fun e => match e with
    | .Subscript a' (.Slice lo' hi' none _) _ => chkE c a a' && chkO c lo lo' && chkO c hi hi'
    | _ => false
  | .bf f es => fun e => match e with
    | .Call (.Name x _) es' [] _ => decide (f.nm = x) && isBlt c x && chkEs c es es' && !es'.isEmpty
    | _ => false
  | .isi a t => fun e => match e with
    | .Call (.Name x _) [a', .Name y _] [] _ => decide (x = "isinstance") && isBlt c x && chkE c a a' && decide (y = (t : Str)) && isBlt c y && decide (t ∈ ["bool", "int", "str", "tuple", "list", "dict"]) && noStar a'
    | _ => false
  | .call f es => fun e => match e with
    | .Call (.Name x _) es' [] _ => decide (f = x) && decide (f ∈ c.fs) && isBlt c x && chkEs c es es' && !(x == "__debug__")
    | _ => false
  | .lm m o es => fun e => match e with
    | .Call (.Attribute o' n ap) es' [] cp => decide (n = m.nm) && chkE c o o' && chkEs c es es' && decide (es'.length < 20) && (ap.endLine == cp.line) && notCall0 o'
    | _ => false
  | .rev a => fun e => match e with
    | .Subscript a' (.Slice none none (some (.UnaryOp .USub (.Constant (.int n) _ _) _)) _) _ => chkE c a a' && decide (n = 1)
    | _ => false
  | .dct0 => fun e => match e with
    | .Dict [] [] _ => true
    | _ => false
  | .dctK => fun e => match e with
    | .Dict [] [] _ => true
    | _ => false
  | .dctT => fun e => match e with
    | .Dict [] [] _ => true
    | _ => false
  | .dct1 a b => fun e => match e with
    | .Dict [some (.Constant x _ _)] [.Constant y _ _] _ => decide (x = a.const) && decide (y = b.const) && a.ok && b.ok
    | _ => false
  | .fz l => fun e => chkA c l e
  | .mt l => fun e => chkA c l e
def chkEs (c : CP) : IEs → List Expr → Bool
  | .nil => fun es => match es with
    | [] => true
    | _ => false
  | .cons a r => fun es => match es with
    | e :: es => chkE c a e && chkEs c r es && noStar e
    | _ => false
def chkO (c : CP) : IO → Option Expr → Bool
  | .no => fun o => match o with
    | none => true
    | _ => false
  | .so a => fun o => match o with
    | some e => chkE c a e
    | _ => false
def chkA (c : CP) : IA → Expr → Bool
  | .lst es => fun e => match e with
    | .List es' _ => chkEs c es es'
    | _ => false
  | .lof es => fun e => match e with
    | .Call (.Name x _) es' [] _ => decide (x = "list") && isBlt c x && chkEs c es es' && !es'.isEmpty
    | _ => false
  | .sl a lo hi => fun e => match e with
    | .Subscript a' (.Slice lo' hi' none _) _ => chkE c a a' && chkO c lo lo' && chkO c hi hi'
    | _ => false
  | .lc elt g it ifs own => fun e => match e with
    | .ListComp elt' gs scope _ => match oneComp gs with
      | some (tg, it', ifs') => blkC c.N c.sc scope own && decide (∀ i ∈ g.slots, i ∈ own.map (·.2)) && chkI c it it' tg &&
        chkG { c with sc := relS scope c.sc, fn := fun x => scope.names.lookup x == some .cell } g tg &&
        chkIf { c with sc := relS scope c.sc, fn := fun x => scope.names.lookup x == some .cell } ifs ifs' &&
        chkE { c with sc := relS scope c.sc, fn := fun x => scope.names.lookup x == some .cell } elt elt'
      | none => false
    | _ => false
def chkIf (c : CP) : IEs → List Expr → Bool
  | .nil => fun es => match es with
    | [] => true
    | _ => false
  | .cons a .nil => fun es => match es with
    | [e] => chkE c a e
    | _ => false
  | .cons _ (.cons _ _) => fun _ => false
def chkI (c : CP) : II → Expr → Expr → Bool
  | .val a => fun e _ => chkE c a e && (match e with
    | .Set _ _ _ => false
    | _ => true)
  | .rng1 a => fun e _ => match e with
    | .Call (.Name x _) [e] [] _ => decide (x = "range") && isBlt c x && chkE c a e && noStar e
    | _ => false
  | .rng2 a b => fun e _ => match e with
    | .Call (.Name x _) [e, f] [] _ => decide (x = "range") && isBlt c x && chkE c a e && chkE c b f && noStar e && noStar f
    | _ => false
  | .enum a => fun e tg => match e, tg with
    | .Call (.Name x _) [e] [] _, .Tuple _ _ _ => decide (x = "enumerate") && isBlt c x && chkE c a e && noStar e
    | _, _ => false
end
end Zz
end
section
namespace Zz
open PySem PySem.Spec PyProof.Rows L2

def bltNames : List Str := ["len", "all", "any", "int", "tuple", "max", "min", "abs", "list", "range", "enumerate", "isinstance", "bool", "str", "dict", "sum", "sorted", "set", "zip", "reversed"]
structure TOk (T : Tx) (c : CP) : Prop where
  blt : ∀ x ∈ bltNames, T.mg x = none
  fs : ∀ f ∈ c.fs, ∃ fa, T.mg f = some (.ref fa) ∧ PySem.W.keepIn T.K (.ref fa) = true
  cs : ∀ p ∈ c.cs, ∃ u, T.mg p.1 = some u ∧ RelV p.2.v u
structure OkX (T : Tx) (k : Nat) (c : CP) (X : Cx) (W : WX) : Prop where
  P : X.prog = T.P
  w : X.w = T.w
  K : X.K = T.K
  mg : X.mg = T.mg
  base : X.base = T.base
  N : X.N = c.N
  nd : c.N.Nodup
  sc : X.env.scope = c.sc
  sk : c.sc.kind = .function
  fn : ∀ x, c.fn x = true → X.fn x = true
  room : Room k X.A
  calm : X.calm = true
  tk : Takes X W
  po : PassesOwn (model X.prog X.w) X.A X.env X.xe
  tok : TOk T c
section
variable {T : Tx} {k : Nat} {c : CP} {X : Cx} {W : WX} {G0 : Hp}
theorem OkX.mg0 (o : OkX T k c X W) {x : Str} (h : x ∈ bltNames) : X.mg x = none := by rw [o.mg]; exact o.tok.blt x h
theorem OkX.gl (o : OkX T k c X W) {x : Str} (h : isBlt c x = true) : Gl X x := by
  show X.env.scope.names.lookup x = _
  rw [o.sc]; exact of_decide_eq_true h
theorem OkX.vis (o : OkX T k c X W) {x : Str} (h : visB c.sc x = true) : Vis X.env.scope x := by
  unfold visB at h
  rw [Bool.or_eq_true, Bool.or_eq_true, decide_eq_true_eq, decide_eq_true_eq, decide_eq_true_eq] at h
  unfold Vis
  rw [o.sc]
  rcases h with (h | h) | h
  · exact .inl h
  · exact .inr (.inl h)
  · exact .inr (.inr h)
theorem OkX.loc (o : OkX T k c X W) {x : Str} (h : storeB c x = true) : L2.Loc X.env.scope x ∧ (X.fn x = true ∨ X.env.scope.names.lookup x = some .local) := by
  unfold storeB locB at h
  rw [Bool.and_eq_true, Bool.or_eq_true, Bool.or_eq_true, decide_eq_true_eq, decide_eq_true_eq] at h
  unfold L2.Loc
  rw [o.sc]
  exact ⟨h.1, h.2.imp (o.fn x) id⟩
theorem OkX.blk (o : OkX T k c X W) {s : Shared} {H : Hp} {scope : Scope} {C : Addr} {cl : List (Str × Addr)} {fp : List Addr} (hk : scope.kind = .function) :
    OkX T k { c with sc := relS scope c.sc, fn := fun x => scope.names.lookup x == some .cell } (X.blk s H scope (compEnvC scope cl C X.env) fp) WF where
  P := o.P
  w := o.w
  K := o.K
  mg := o.mg
  base := o.base
  N := o.N
  nd := o.nd
  sc := by
    show relabel scope X.env = relS scope c.sc
    rw [← o.sc]
    rfl
  sk := hk
  fn := fun x h => h
  room := o.room
  calm := o.calm
  tk := takes0
  po := PassesOwn.never
  tok := ⟨o.tok.blt, o.tok.fs, o.tok.cs⟩
theorem not_eq_true' {b : Bool} (h : (!b) = true) : b = false := by cases b <;> first | rfl | cases h
theorem one_boot (f : BF) : f.nm ∈ bltNames := by cases f <;> decide +kernel
theorem plainIx_of {b : Expr} (h : notSl b = true) : PlainIx b := by
  intro o i
  cases b with
  | Slice => cases h
  | _ => rfl
theorem g_nm_ok (o : OkX T k c X W) {i : Nat} {e : Expr} (h : chkNm c i e = true) : PG X e (upG X.K [i] (gNm i)) := by
  unfold chkNm at h
  split at h
  · rw [Bool.and_eq_true, decide_eq_true_eq] at h
    obtain ⟨h1, h2⟩ := o.loc h.2
    exact g_nm (by rw [o.N]; exact o.nd) (by rw [o.N]; exact h.1) h1 h2
  · cases h
theorem gs_ok (o : OkX T k c X W) : ∀ {is : List Nat} {es : List Expr}, chkNms c is es = true → PGs X es (upGs X.K is (zGs is)) ∧ (assignEach es X.env).length = is.length ∧ (assignEach es X.env).findIdx? (·.1) = none
  | [], [], _ => ⟨gs_nil, rfl, rfl⟩
  | i :: r, e :: es, h => by
    unfold chkNms at h
    rw [Bool.and_eq_true] at h
    obtain ⟨h1, h2, h3⟩ := gs_ok o h.2
    have hn := h.1
    unfold chkNm at hn
    split at hn
    · rename_i x p
      have e1 : assignEach (.Name x p :: es) X.env = (false, assign (.Name x p) X.env) :: assignEach es X.env := rfl
      refine ⟨gs_cons (ts := [i]) (g_nm_ok o h.1) h1 (by rw [e1]; rfl), by rw [e1]; simp [h2], ?_⟩
      rw [e1, List.findIdx?_cons, h3]
      rfl
    · cases hn
  | [], _ :: _, h => by cases h
  | _ :: _, [], h => by cases h
theorem g_ok (o : OkX T k c X W) {g : IG} {e : Expr} (h : chkG c g e = true) : PG X e (upG X.K g.slots (zG g)) := by
  cases g with
  | nm i => exact g_nm_ok o (by cases e <;> exact h)
  | tup is =>
    unfold chkG at h
    split at h
    · rename_i heq
      cases heq
    · rename_i es _ _ heq
      cases heq
      obtain ⟨h1, h2, h3⟩ := gs_ok o h
      exact g_tup o.calm h1 h2 h3
    · cases h
def plainTest : Expr → Bool
  | .UnaryOp .Not _ _ => false
  | .BoolOp _ _ _ => false
  | .IfExp _ _ _ _ => false
  | .Compare _ _ _ _ => false
  | _ => true
theorem plainTest_ok {e : Expr} (h : plainTest e = true) (env : Env) (whole : Sem Value) : isTrue e env whole = (do let v ← whole; standAt e.pos; holding [v] (truthy v)) := by
  cases e with
  | UnaryOp op a p => cases op <;> first | rfl | cases h
  | BoolOp => cases h
  | IfExp => cases h
  | Compare => cases h
  | _ => rfl
theorem never_t {e : Expr} : PT X e (upT X.K G0 W zFalse) := ⟨fun pins s σ H Q I h => by
  obtain ⟨_, _, _, _, _, _, _, h, _⟩ := h
  exact h.elim⟩
theorem never_w {e : Expr} : PW X e (upT X.K G0 W zFalse) := ⟨fun wh pins s σ H Q I h => by
  obtain ⟨_, _, _, _, _, _, _, h, _⟩ := h
  exact h.elim⟩
theorem never_e {e : Expr} : PE X e (up X.K G0 W fun _ _ _ _ => False) := ⟨fun pins s σ H Q I h => by
  obtain ⟨_, _, _, _, _, _, _, h, _⟩ := h
  exact h.elim⟩
theorem lm_ok (m : LM) : ∃ id, PlainAttrs m.ty ∧ Slot m.ty m.nm id ∧ typeOf (.builtin id) = pure (.type "method_descriptor") ∧ MtR X id (upM X.K G0 (zLM m)) ∧ (m.ty = "list" ∨ m.ty = "str" ∨ m.ty = "dict") := by
  cases m with
  | append => exact ⟨_, PySem.F.plainAttrs_list, PySem.F.slot_list_append, PySem.F.type_list_append, append_ok, .inl rfl⟩
  | extend => exact ⟨_, PySem.F.plainAttrs_list, PySem.F.slot_list_extend, PySem.F.type_list_extend, extend_ok, .inl rfl⟩
  | insert => exact ⟨_, PySem.F.plainAttrs_list, PySem.F.slot_list_insert, PySem.F.type_list_insert, insert_ok, .inl rfl⟩
  | pop => exact ⟨_, PySem.F.plainAttrs_list, PySem.F.slot_list_pop, PySem.F.type_list_pop, pop_ok, .inl rfl⟩
  | reverse => exact ⟨_, PySem.F.plainAttrs_list, PySem.F.slot_list_reverse, PySem.F.type_list_reverse, reverse_ok, .inl rfl⟩
theorem attrBase_ok {o : Expr} (h : notCall0 o = true) (n : Str) (env : Env) (w : Sem Value) : attributeBase o n env w = w := by
  unfold attributeBase
  split
  · cases h
  · rfl
mutual
theorem sET : (ie : IE) → ∀ {T : Tx} {k : Nat} {c : CP} {X : Cx} {W : WX} {G0 : Hp} {e : Expr}, OkX T k c X W → chkE c ie e = true → PE X e (up X.K G0 W (zE T k ie)) ∧ PT X e (upT X.K G0 W (zT T k ie))
  | .var i, T, k, c, X, W, G0, e, o, h => by
    unfold chkE at h
    split at h <;> try (cases h; done)
    rename_i x p
    simp only [Bool.and_eq_true, decide_eq_true_eq] at h
    have q : PE X (.Name x p) (up X.K G0 W (zVar i)) := z_var (by rw [o.N]; exact h.1.1.1) (o.vis h.1.1.2) (not_eq_true' h.1.2) (not_eq_true' h.2)
    exact ⟨q, z_tOf q (plainTest_ok rfl _)⟩
  | .int n, T, k, c, X, W, G0, e, o, h => by
    unfold chkE at h
    split at h <;> try (cases h; done)
    have := of_decide_eq_true h
    subst this
    exact ⟨z_int, z_tOf z_int (plainTest_ok rfl _)⟩
  | .str s, T, k, c, X, W, G0, e, o, h => by
    unfold chkE at h
    split at h <;> try (cases h; done)
    simp only [Bool.and_eq_true, decide_eq_true_eq] at h
    obtain ⟨rfl, h2⟩ := h
    exact ⟨z_str h2, z_tOf (z_str h2) (plainTest_ok rfl _)⟩
  | .bl b, T, k, c, X, W, G0, e, o, h => by
    unfold chkE at h
    split at h <;> try (cases h; done)
    have := beq_iff_eq.mp h
    subst this
    exact ⟨z_bl, z_tOf z_bl (plainTest_ok rfl _)⟩
  | .non, T, k, c, X, W, G0, e, o, h => by
    unfold chkE at h
    split at h <;> try (cases h; done)
    exact ⟨z_non, z_tOf z_non (plainTest_ok rfl _)⟩
  | .gc x q, T, k, c, X, W, G0, e, o, h => by
    unfold chkE at h
    split at h <;> try (cases h; done)
    simp only [Bool.and_eq_true, decide_eq_true_eq] at h
    obtain ⟨⟨⟨⟨rfl, h2⟩, h3⟩, h4⟩, h5⟩ := h
    obtain ⟨u, hu, r⟩ := o.tok.cs _ h2
    have g := fun pos => z_glob (X := X) (G0 := G0) (W := W) (pos := pos) (p := q.pv) (v := q.v) (o.gl h4) (by rw [o.mg]; exact hu) r (fun G => by
      cases q with
      | int n => exact .int n
      | str s => exact .str s (of_decide_eq_true h3)) (not_eq_true' h5)
    exact ⟨g _, z_tOf (g _) (plainTest_ok rfl _)⟩
  | .bin op a b, T, k, c, X, W, G0, e, o, h => by
    unfold chkE at h
    split at h <;> try (cases h; done)
    simp only [Bool.and_eq_true, decide_eq_true_eq] at h
    obtain ⟨⟨rfl, h1⟩, h2⟩ := h
    have g := fun pos => z_bin (pos := pos) (z_bin_ok (G0 := G0) op) (sET a (W := W) o h1).1 (sET b o h2).1
    exact ⟨g _, z_tOf (g _) (plainTest_ok rfl _)⟩
  | .neg a, T, k, c, X, W, G0, e, o, h => by
    unfold chkE at h
    split at h <;> try (cases h; done)
    have g := fun pos => z_neg (pos := pos) (sET a (W := W) (G0 := G0) o h).1
    exact ⟨g _, z_tOf (g _) (plainTest_ok rfl _)⟩
  | .cmp op a b, T, k, c, X, W, G0, e, o, h => by
    unfold chkE at h
    split at h <;> try (cases h; done)
    simp only [Bool.and_eq_true, decide_eq_true_eq] at h
    obtain ⟨⟨⟨rfl, h1⟩, h2⟩, h3⟩ := h
    have hu : X.A.units + 65 < cLine := by have := o.room.un; omega
    exact ⟨z_cmp (z_cmp_ok op hu) (sET a o h1).1 (sET b o h2).1 (not_eq_true' h3), z_tCmp (z_cmp_ok op hu) (sET a o h1).1 (sET b o h2).1 (not_eq_true' h3)⟩
  | .chain op op' a b d, T, k, c, X, W, G0, e, o, h => by
    unfold chkE at h
    split at h <;> try (cases h; done)
    simp only [Bool.and_eq_true, decide_eq_true_eq] at h
    obtain ⟨⟨⟨⟨⟨rfl, rfl⟩, h1⟩, h2⟩, h3⟩, h4⟩ := h
    have hu : X.A.units + 65 < cLine := by have := o.room.un; omega
    exact ⟨z_chain (z_cmp_ok op hu) (z_cmp_ok op' hu) (sET a o h1).1 (sET b o h2).1 (sET d o h3).1 (not_eq_true' h4),
      z_tChain (z_cmp_ok op hu) (z_cmp_ok op' hu) (sET a o h1).1 (sET b o h2).1 (sET d o h3).1 (not_eq_true' h4)⟩
  | .notV a, T, k, c, X, W, G0, e, o, h => by
    unfold chkE at h
    split at h <;> try (cases h; done)
    exact ⟨z_notV (sET a o h).1, z_notT (sET a o h).2⟩
  | .bo op es, T, k, c, X, W, G0, e, o, h => by
    unfold chkE at h
    split at h <;> try (cases h; done)
    simp only [Bool.and_eq_true, decide_eq_true_eq] at h
    obtain ⟨rfl, h1⟩ := h
    exact ⟨(sBo es o h1).1, (sBo es o h1).2.pt⟩
  | .ife t a b, T, k, c, X, W, G0, e, o, h => by
    unfold chkE at h
    split at h <;> try (cases h; done)
    simp only [Bool.and_eq_true, decide_eq_true_eq] at h
    exact ⟨z_if (sET t o h.1.1).2 (sET a o h.1.2).1 (sET b o h.2).1, never_t⟩
  | .tup es, T, k, c, X, W, G0, e, o, h => by
    unfold chkE at h
    split at h <;> try (cases h; done)
    exact ⟨z_tup (sEs es o h).1, never_t⟩
  | .ix a b, T, k, c, X, W, G0, e, o, h => by
    unfold chkE at h
    split at h <;> try (cases h; done)
    simp only [Bool.and_eq_true, decide_eq_true_eq] at h
    have g := fun pos => z_ix (pos := pos) (by have := o.room.un; omega) (sET a (W := W) (G0 := G0) o h.1.1).1 (sET b o h.1.2).1 (plainIx_of h.2)
    exact ⟨g _, z_tOf (g _) (plainTest_ok rfl _)⟩
  | .sl a lo hi, T, k, c, X, W, G0, e, o, h => by
    unfold chkE at h
    split at h <;> try (cases h; done)
    simp only [Bool.and_eq_true, decide_eq_true_eq] at h
    exact ⟨z_sl (sET a o h.1.1).1 (sO lo o h.1.2) (sO hi o h.2), never_t⟩
  | .bf f es, T, k, c, X, W, G0, e, o, h => by
    unfold chkE at h
    split at h <;> try (cases h; done)
    rename_i x p es' pos
    simp only [Bool.and_eq_true, decide_eq_true_eq] at h
    obtain ⟨⟨⟨rfl, h1⟩, h2⟩, h3⟩ := h
    obtain ⟨g1, g2⟩ := sEs (G0 := G0) (W := W) es o h2
    have hm := o.mg0 (one_boot f)
    have hg := o.gl h1
    cases es' with
    | nil => cases h3
    | cons e es' =>
      rw [List.all_cons, Bool.and_eq_true] at g2
      have q1 := starEach_cons (es := es') (env := X.env) (noStar_ne g2.1)
      have q2 := fun pos => backTo_any (pos := pos) (env := X.env) g2.2
      have q : PE X (.Call (.Name f.nm p) (e :: es') [] pos) (up X.K G0 W (zCB (zBF f) (zEs T k es))) := by
        refine PE.imp (t := tCB (upC X.K G0 (zBF f)) (upA X.K G0 W (zEs T k es))) ?_ fun _ _ _ => up_cb
        cases f with
        | len => exact pe_callB len_ok hg hm PySem.boot_len g1 (by decide) (by decide) q1 (q2 _)
        | all => exact pe_callB (all_ok o.calm) hg hm PyProof.Rows.boot_all g1 (by decide) (by decide) q1 (q2 _)
        | any => exact pe_callB (any_ok' o.calm) hg hm PyProof.Rows.boot_any g1 (by decide) (by decide) q1 (q2 _)
        | int => exact pe_callTy int_ok hg hm (by decide +kernel) g1 (by decide) (by decide) q1 (q2 _)
        | tuple => exact pe_callTy tuple_ok hg hm (by decide +kernel) g1 (by decide) (by decide) q1 (q2 _)
        | max => exact pe_callB (max_ok o.calm) hg hm (by decide +kernel) g1 (by decide) (by decide) q1 (q2 _)
        | min => exact pe_callB (min_ok o.calm) hg hm (by decide +kernel) g1 (by decide) (by decide) q1 (q2 _)
        | abs => exact pe_callB abs_ok hg hm (by decide +kernel) g1 (by decide) (by decide) q1 (q2 _)
      exact ⟨q, z_tOf q (plainTest_ok rfl _)⟩
  | .isi a t, T, k, c, X, W, G0, e, o, h => by
    unfold chkE at h
    split at h <;> try (cases h; done)
    rename_i x p a' y p' pos
    simp only [Bool.and_eq_true, decide_eq_true_eq] at h
    obtain ⟨⟨⟨⟨⟨⟨rfl, h1⟩, h2⟩, rfl⟩, h4⟩, h5⟩, h6⟩ := h
    have h5' : ((t : Str) ∈ bltNames ∧ bootBuiltins (t : Str) = some (.type t)) ∧ (t : Str) ≠ "__name__" ∧ ((t : Str) == ("__debug__" : Str)) = false := by
      simp only [List.mem_cons, List.not_mem_nil, or_false] at h5
      rcases h5 with rfl | rfl | rfl | rfl | rfl | rfl <;> refine ⟨⟨by decide +kernel, by decide +kernel⟩, by decide, by decide⟩
    have hty : PE X (.Name (t : Str) p') (up X.K G0 W (zCst (.ty t))) := PE.imp (pe_bltn (o.gl h4) (o.mg0 h5'.1.1) h5'.1.2 (v := .ty t) rfl h5'.2.1 h5'.2.2) fun _ _ _ h => up_cst (fun _ => .ty t) h
    have q1 := starEach_cons (es := [.Name (t : Str) p']) (env := X.env) (noStar_ne h6)
    have q : PE X (.Call (.Name "isinstance" p) [a', .Name (t : Str) p'] [] pos) (up X.K G0 W (zCB (zIsi t) (zCons (zE T k a) (zCons (zCst (.ty t)) zNil)))) :=
      PE.imp (pe_callB (isi_ok (G0 := G0) h5) (o.gl h1) (o.mg0 (by decide +kernel)) (by decide +kernel) (z_cons (sET a o h2).1 (z_cons hty z_nil rfl) q1) (by decide) (by decide) q1 rfl) fun _ _ _ => up_cb
    exact ⟨q, z_tOf q (plainTest_ok rfl _)⟩
  | .call f es, T, k, c, X, W, G0, e, o, h => by
    unfold chkE at h
    split at h <;> try (cases h; done)
    rename_i x p es' pos
    simp only [Bool.and_eq_true, decide_eq_true_eq] at h
    obtain ⟨⟨⟨⟨rfl, h1⟩, h2⟩, h3⟩, h4⟩ := h
    obtain ⟨g1, g2⟩ := sEs (G0 := G0) (W := W) es o h3
    obtain ⟨fa, hm, hk⟩ := o.tok.fs _ h1
    have q : PE X (.Call (.Name f p) es' [] pos) (up X.K G0 W (zCall T k f (zEs T k es))) := by
      cases es' with
      | nil =>
        cases es with
        | nil => exact z_call0 o.P o.w o.K o.mg o.base o.room o.tk (o.gl h2) hm hk (not_eq_true' h4)
        | cons a r => unfold chkEs at h3; cases h3
      | cons e es' => exact z_call o.P o.w o.K o.mg o.base o.room o.tk (o.gl h2) hm hk g1 g2 (not_eq_true' h4)
    exact ⟨q, z_tOf q (plainTest_ok rfl _)⟩
  | .lm m ro es, T, k, c, X, W, G0, e, o, h => by
    unfold chkE at h
    split at h <;> try (cases h; done)
    rename_i o' n ap es' cp
    simp only [Bool.and_eq_true, decide_eq_true_eq] at h
    obtain ⟨⟨⟨⟨⟨rfl, h1⟩, h2⟩, h3⟩, h4⟩, h5⟩ := h
    obtain ⟨g1, g2⟩ := sEs (G0 := G0) (W := W) es o h2
    obtain ⟨id, pa, sl, ty, mt, ht⟩ := lm_ok (X := X) (G0 := G0) m
    have q : PE X (.Call (.Attribute o' m.nm ap) es' [] cp) (up X.K G0 W (zMt m.ty (zLM m) (zE T k ro) (zEs T k es))) := by
      cases es' with
      | nil =>
        cases es with
        | nil => exact z_mt0 pa sl ty mt ht (sET ro o h1).1 (attrBase_ok h5 _ _ _) h4
        | cons a r => unfold chkEs at h2; cases h2
      | cons e es' => exact z_mt pa sl ty mt ht (sET ro o h1).1 g1 (attrBase_ok h5 _ _ _) g2 h3 h4
    exact ⟨q, z_tOf q (plainTest_ok rfl _)⟩
  | .rev a, T, k, c, X, W, G0, e, o, h => by
    unfold chkE at h
    split at h <;> try (cases h; done)
    simp only [Bool.and_eq_true, decide_eq_true_eq] at h
    obtain ⟨h1, rfl⟩ := h
    exact ⟨z_rev (sET a o h1).1, never_t⟩
  | .dct0, T, k, c, X, W, G0, e, o, h => by
    unfold chkE at h
    split at h <;> try (cases h; done)
    exact ⟨z_dct0, never_t⟩
  | .dctK, T, k, c, X, W, G0, e, o, h => by
    unfold chkE at h
    split at h <;> try (cases h; done)
    exact ⟨z_dctK, never_t⟩
  | .dctT, T, k, c, X, W, G0, e, o, h => by
    unfold chkE at h
    split at h <;> try (cases h; done)
    exact ⟨z_dctT, never_t⟩
  | .dct1 a b, T, k, c, X, W, G0, e, o, h => by
    unfold chkE at h
    split at h <;> try (cases h; done)
    simp only [Bool.and_eq_true, decide_eq_true_eq] at h
    obtain ⟨⟨⟨rfl, rfl⟩, h3⟩, h4⟩ := h
    have q1 : ∀ {j p}, PE X (.Constant a.const j p) (tC (kV a.key)) := by
      cases a with
      | int n => exact pe_int
      | str s => exact pe_str
    have q2 : ∀ {j p}, PE X (.Constant b.const j p) (tC b.v) := by
      cases b with
      | int n => exact pe_int
      | str s => exact pe_str
    exact ⟨disp1 (x := .non) q1 q2 fun G => by
      cases b with
      | int n => exact .int n
      | str s => exact .str s (of_decide_eq_true h4), never_t⟩
  | .fz l, T, k, c, X, W, G0, e, o, h => by
    unfold chkE at h
    exact ⟨upL_fz (sA l o h), never_t⟩
  | .mt l, T, k, c, X, W, G0, e, o, h => by
    unfold chkE at h
    exact ⟨upL_mt (sA l o h), never_t⟩
theorem sEs : (es : IEs) → ∀ {T : Tx} {k : Nat} {c : CP} {X : Cx} {W : WX} {G0 : Hp} {es' : List Expr}, OkX T k c X W → chkEs c es es' = true → PA X es' (upA X.K G0 W (zEs T k es)) ∧ es'.all noStar = true
  | .nil, T, k, c, X, W, G0, es', o, h => by
    unfold chkEs at h
    split at h <;> try (cases h; done)
    exact ⟨z_nil, rfl⟩
  | .cons a r, T, k, c, X, W, G0, es', o, h => by
    unfold chkEs at h
    split at h <;> try (cases h; done)
    simp only [Bool.and_eq_true] at h
    obtain ⟨g1, g2⟩ := sEs (G0 := G0) r o h.1.2
    exact ⟨z_cons (sET a o h.1.1).1 g1 (starEach_cons (noStar_ne h.2)), by rw [List.all_cons, h.2, g2]; rfl⟩
theorem sBo : (es : IEs) → ∀ {T : Tx} {k : Nat} {c : CP} {X : Cx} {W : WX} {G0 : Hp} {es' : List Expr} {op : BoolOp} {pos : Pos}, OkX T k c X W → chkEs c es es' = true → PE X (.BoolOp op es' pos) (up X.K G0 W (zBoVs T k op es)) ∧ PW X (.BoolOp op es' pos) (upT X.K G0 W (zBoTs T k op es))
  | .nil, T, k, c, X, W, G0, es', op, pos, o, h => ⟨never_e, never_w⟩
  | .cons a .nil, T, k, c, X, W, G0, es', op, pos, o, h => by
    unfold chkEs at h
    split at h <;> try (cases h; done)
    simp only [Bool.and_eq_true] at h
    have h2 := h.1.2
    unfold chkEs at h2
    split at h2 <;> try (cases h2; done)
    exact ⟨z_boV1 (sET a o h.1.1).1, z_boT1 (sET a o h.1.1).2⟩
  | .cons a (.cons b s), T, k, c, X, W, G0, es', op, pos, o, h => by
    unfold chkEs at h
    split at h <;> try (cases h; done)
    rename_i e es
    simp only [Bool.and_eq_true] at h
    have h2 := h.1.2
    cases es with
    | nil => unfold chkEs at h2; cases h2
    | cons e2 es => exact ⟨z_boV (sET a o h.1.1).1 (sBo (.cons b s) o h2).1, z_boT (sET a o h.1.1).2 (sBo (.cons b s) o h2).2⟩
theorem sO : (io : IO) → ∀ {T : Tx} {k : Nat} {c : CP} {X : Cx} {W : WX} {G0 : Hp} {e : Option Expr}, OkX T k c X W → chkO c io e = true → PO X e (upO X.K G0 W (zO T k io))
  | .no, T, k, c, X, W, G0, e, o, h => by
    unfold chkO at h
    split at h <;> try (cases h; done)
    exact z_noPart
  | .so a, T, k, c, X, W, G0, e, o, h => by
    unfold chkO at h
    split at h <;> try (cases h; done)
    exact z_part (sET a o h).1
theorem sA : (l : IA) → ∀ {T : Tx} {k : Nat} {c : CP} {X : Cx} {W : WX} {G0 : Hp} {e : Expr}, OkX T k c X W → chkA c l e = true → PE X e (upL X.K G0 W (zA T k l))
  | .lst es, T, k, c, X, W, G0, e, o, h => by
    unfold chkA at h
    split at h <;> try (cases h; done)
    exact z_lst (sEs es o h).1
  | .lof es, T, k, c, X, W, G0, e, o, h => by
    unfold chkA at h
    split at h <;> try (cases h; done)
    rename_i x p es' pos
    simp only [Bool.and_eq_true, decide_eq_true_eq] at h
    obtain ⟨⟨⟨rfl, h1⟩, h2⟩, h3⟩ := h
    obtain ⟨g1, g2⟩ := sEs (G0 := G0) es o h2
    cases es' with
    | nil => cases h3
    | cons e es' =>
      rw [List.all_cons, Bool.and_eq_true] at g2
      refine PE.imp (pe_callTy (list_ok (G0 := G0)) (o.gl h1) (o.mg0 (by decide +kernel)) (by decide +kernel) g1 (by decide) (by decide) (starEach_cons (noStar_ne g2.1)) (backTo_any g2.2)) fun σ H Q hh => up_cbl (show upL X.K G0 W (zCBL zList (zEs T k es)) σ H Q from hh)
  | .sl a lo hi, T, k, c, X, W, G0, e, o, h => by
    unfold chkA at h
    split at h <;> try (cases h; done)
    simp only [Bool.and_eq_true, decide_eq_true_eq] at h
    exact z_slL ((sET a o h.1.1).1) (sO lo o h.1.2) (sO hi o h.2)
  | .lc elt g it ifs own, T, k, c, X, W, G0, e, o, h => by
    unfold chkA at h
    split at h <;> try (cases h; done)
    rename_i elt' gs scope pos
    split at h <;> try (cases h; done)
    rename_i tg it' ifs' eg
    obtain rfl := oneComp_ok eg
    simp only [Bool.and_eq_true, decide_eq_true_eq] at h
    obtain ⟨⟨⟨⟨⟨h1, h2⟩, h3⟩, h4⟩, h5⟩, h6⟩ := h
    have ok : BlkOk X.N X.env.scope scope own := by rw [o.N, o.sc]; exact blkOk_by h1
    obtain ⟨g1, g2⟩ := sI it (G0 := G0) (tg := tg) o h3
    exact z_lc o.calm (by rw [o.N]; exact o.nd) g1 ok h2 (fun s H C cl fp => g_ok (o.blk ok.kind) h4) (fun G0 s H C cl fp => sIf ifs (o.blk ok.kind) h5) (fun G0 s H C cl fp => (sET elt (o.blk ok.kind) h6).1) g2
theorem sIf : (es : IEs) → ∀ {T : Tx} {k : Nat} {c : CP} {X : Cx} {W : WX} {G0 : Hp} {es' : List Expr}, OkX T k c X W → chkIf c es es' = true → PTs X es' (upT X.K G0 W (zIfs T k es))
  | .nil, T, k, c, X, W, G0, es', o, h => by
    unfold chkIf at h
    split at h <;> try (cases h; done)
    exact ts_nil
  | .cons a .nil, T, k, c, X, W, G0, es', o, h => by
    unfold chkIf at h
    split at h <;> try (cases h; done)
    exact ts_one (sET a o h).2
  | .cons a (.cons b s), T, k, c, X, W, G0, es', o, h => by
    unfold chkIf at h
    cases h
theorem sI : (it : II) → ∀ {T : Tx} {k : Nat} {c : CP} {X : Cx} {W : WX} {G0 : Hp} {e tg : Expr}, OkX T k c X W → chkI c it e tg = true → PI X tg e (upI X.K G0 W (zI T k it)) ∧ ∀ x, foldedSetIterable e X.env x = pure x
  | .val a, T, k, c, X, W, G0, e, tg, o, h => by
    unfold chkI at h
    simp only [Bool.and_eq_true] at h
    refine ⟨i_val (sET a o h.1).1, fun x => ?_⟩
    have h2 := h.2
    cases e with
    | Set => cases h2
    | _ => rfl
  | .rng1 a, T, k, c, X, W, G0, e, tg, o, h => by
    unfold chkI at h
    split at h <;> try (cases h; done)
    simp only [Bool.and_eq_true, decide_eq_true_eq] at h
    obtain ⟨⟨⟨rfl, h1⟩, h2⟩, h3⟩ := h
    have q := starEach_cons (es := []) (env := X.env) (noStar_ne h3)
    exact ⟨i_rng1 (o.gl h1) (o.mg0 (by decide +kernel)) (z_cons (sET a o h2).1 z_nil q) q, fun _ => rfl⟩
  | .rng2 a b, T, k, c, X, W, G0, e, tg, o, h => by
    unfold chkI at h
    split at h <;> try (cases h; done)
    simp only [Bool.and_eq_true, decide_eq_true_eq] at h
    obtain ⟨⟨⟨⟨⟨rfl, h1⟩, h2⟩, h3⟩, h4⟩, h5⟩ := h
    have q2 := starEach_cons (es := []) (env := X.env) (noStar_ne h5)
    have q1 := fun es => starEach_cons (es := es) (env := X.env) (noStar_ne h4)
    exact ⟨i_rng2 (o.gl h1) (o.mg0 (by decide +kernel)) (z_cons (sET a o h2).1 (z_cons (sET b o h3).1 z_nil q2) (q1 _)) (by rw [q1, q2]; rfl) q2, fun _ => rfl⟩
  | .enum a, T, k, c, X, W, G0, e, tg, o, h => by
    unfold chkI at h
    split at h <;> try (cases h; done)
    simp only [Bool.and_eq_true, decide_eq_true_eq] at h
    obtain ⟨⟨⟨rfl, h1⟩, h2⟩, h3⟩ := h
    have q := starEach_cons (es := []) (env := X.env) (noStar_ne h3)
    exact ⟨i_enum (o.gl h1) (o.mg0 (by decide +kernel)) (z_cons (sET a o h2).1 z_nil q) q, fun _ => rfl⟩
end
end
end Zz
end
section
namespace Zz
open PySem PySem.Spec PyProof.Rows L2

mutual
inductive IS where
  | asg (g : IG) (e : IE) | setL (mu : Bool) (i : Nat) (l : IA) | par (i j : Nat) (a b : IE) | expr (e : IE) | doc | ret (e : IE) | retN | ife (t : IE) (a b : ISs) | for (g : IG) (it : II) (b : ISs) | whl (t : IE) (b : ISs)
  | pass | brk | cont | setAt (o i e : IE)
inductive ISs where
  | nil | cons (s : IS) (r : ISs) | frz (i : Nat) (r : ISs)
end
/-- a watched list is kept as it is from here on -/
def frzV (p : Addr) (xs : List PV) : PV → PV
  | .ref q => if q = p then .lst xs else .ref q
  | x => x
def zfrz (p : Addr) (xs : List PV) (z : ZSt) : ZSt := z.map fun o => o.map (frzV p xs)
def zsFrz (i : Nat) (t : ZTS) : ZTS := fun E D z M => match zGet z i with
  | some (.ref p) => (match refL M p with
    | some xs => t E D (zfrz p xs z) (mdel M p)
    | none => False)
  | _ => False
section
variable (T : Tx) (k : Nat)
mutual
def zS : IS → ZTS
  | .asg g e => zsAsg (zE T k e) (zG g)
  | .setL mu i l => zsSetL mu (zA T k l) i
  | .par i j a b => zsPar i j (zCons (zE T k a) (zCons (zE T k b) zNil))
  | .expr e => zsExpr (zE T k e)
  | .doc => zsPass
  | .ret e => zsRet (zE T k e)
  | .retN => zsRetN
  | .ife t a b => zsIf (zT T k t) (zSs a) (zSs b)
  | .for g it b => zsFor (zI T k it) (zG g) (zSs b)
  | .whl t b => zWhile (zT T k t) (zSs b)
  | .pass => zsPass
  | .brk => zsBreak
  | .cont => zsCont
  | .setAt o i e => zsSet (zE T k e) (zE T k o) (zE T k i)
def zSs : ISs → ZTS
  | .nil => zsNil
  | .cons s r => zsCons (zS s) (zSs r)
  | .frz i r => zsFrz i (zSs r)
end
end
def notComp : Expr → Bool
  | .ListComp _ _ _ _ => false
  | .SetComp _ _ _ _ => false
  | .DictComp _ _ _ _ _ => false
  | _ => true
def notTup : Expr → Bool
  | .Tuple _ _ _ => false
  | _ => true
/-- a, b = x, y: the two of the two names, stored from the right -/
def swapB (x y : Str) (px py : Pos) (a b : Expr) : Bool := px.line == py.line && !(x == y) && noStar a && noStar b && !([a, b].all (foldedForSure 8)) && !([a, b].all (constantsAlone 8))
mutual
def chkS (c : CP) : IS → Stmt → Bool
  | .asg g e => fun s => match s with
    | .Assign [tg] e' _ => chkG c g tg && chkE c e e' && notComp e' && (match tg with
      | .Name _ _ => true
      | .Tuple _ _ _ => notTup e'
      | _ => false)
    | _ => false
  | .setL mu i l => fun s => match s with
    | .Assign [.Name y py] (.ListComp elt' gs scope pos) _ => chkA c l (.ListComp elt' gs scope pos) && decide (c.N[i]? = some y) && decide (c.sc.names.lookup y = some .local) && (py.line == pos.line) && !(scope.names.any fun (n, k) => n == y && (k == .local || k == .cell))
    | _ => false
  | .par i j a b => fun s => match s with
    | .Assign [.Tuple [.Name x px, .Name y py] _ _] (.Tuple [a', b'] _ _) _ => chkE c a a' && chkE c b b' && decide (c.N[i]? = some x) && decide (c.N[j]? = some y) && decide (c.sc.names.lookup x = some .local) && decide (c.sc.names.lookup y = some .local) && swapB x y px py a' b' && !(i == j)
    | _ => false
  | .expr e => fun s => match s with
    | .Expr e' _ => chkE c e e' && notComp e'
    | _ => false
  | .doc => fun s => match s with
    | .Expr (.Constant (.str _) _ _) _ => true
    | _ => false
  | .ret e => fun s => match s with
    | .Return (some e') _ => chkE c e e'
    | _ => false
  | .retN => fun s => match s with
    | .Return none _ => true
    | _ => false
  | .ife t a b => fun s => match s with
    | .If t' a' b' _ => chkE c t t' && chkSs c a a' && chkSs c b b'
    | _ => false
  | .for g it b => fun s => match s with
    | .For tg it' b' [] _ => chkI c it it' tg && chkG c g tg && chkSs c b b'
    | _ => false
  | .whl t b => fun s => match s with
    | .While t' b' [] _ => chkE c t t' && chkSs c b b'
    | _ => false
  | .pass => fun s => match s with
    | .Pass _ => true
    | _ => false
  | .brk => fun s => match s with
    | .Break _ => true
    | _ => false
  | .cont => fun s => match s with
    | .Continue _ => true
    | _ => false
  | .setAt o i e => fun s => match s with
    | .Assign [.Subscript o' i' _] e' _ => chkE c o o' && chkE c i i' && chkE c e e' && notSl i' && notComp e'
    | _ => false
def chkSs (c : CP) : ISs → List Stmt → Bool
  | .nil => fun ss => match ss with
    | [] => true
    | _ => false
  | .cons s r => fun ss => match ss with
    | st :: rs => chkS c s st && chkSs c r rs
    | _ => false
  | .frz _ r => fun ss => chkSs c r ss
end
section
variable {T : Tx} {k : Nat} {c : CP} {X : Cx} {W : WX} {G0 : Hp}
theorem swaps_ok {e : Expr} (h : notComp e = true) (t : Option Expr) (l : Nat) (env : Env) : swapsWith e t l env = pure false := by
  cases e with
  | ListComp => cases h
  | SetComp => cases h
  | DictComp => cases h
  | _ => rfl
theorem sole {t v : Expr} {l : Nat} {env : Env} : swapsWithSole [t] v l env = swapsWith v (some t) l env := by rfl
theorem dups2 {x y : Str} (h : (x == y) = false) : ([x, y].eraseDups.length != [x, y].length) = false := by
  have h' : (y == x) = false := by
    cases e : y == x with
    | false => rfl
    | true => rw [beq_iff_eq.mp e, beq_self_eq_true] at h; cases h
  simp [List.eraseDups, List.eraseDupsBy, List.eraseDupsBy.loop, h, h']
theorem swapB_ok {x y : Str} {px py pt : Pos} {kt k2 pt2} {a b : Expr} {env : Env} (h : swapB x y px py a b = true) (hk : env.scope.kind = .function) (hx : env.scope.names.lookup x = some .local) (hy : env.scope.names.lookup y = some .local) :
    swappedStores [.Tuple [.Name x px, .Name y py] kt pt] (.Tuple [a, b] k2 pt2) env = pure (some [x, y]) := by
  unfold swapB at h
  simp only [Bool.and_eq_true] at h
  obtain ⟨⟨⟨⟨⟨h1, h2⟩, h3⟩, h4⟩, h5⟩, h6⟩ := h
  have kx : env.kindOf x = some .local := hx
  have ky : env.kindOf y = some .local := hy
  have hb : env.blockKind = .function := by unfold Env.blockKind; rw [hk]; rfl
  have e1 : px.line = py.line := beq_iff_eq.mp h1
  have e2 : (x == y) = false := not_eq_true' h2
  have e5 := not_eq_true' h5
  have e6 := not_eq_true' h6
  have d := dups2 e2
  unfold swappedStores
  simp only [hb, List.any_cons, List.any_nil, List.head?_cons, Option.map_some, Option.getD_some, Expr.pos, List.filterMap_cons, kx, ky, e1, beq_self_eq_true, Bool.and_self, if_true, List.filterMap_nil, e5, e6, Bool.or_self, Bool.false_eq_true, if_false]
  rw [if_neg (by simp), if_neg ?_, if_neg (by rw [d]; simp)]
  intro q
  simp only [Bool.or_eq_true, Bool.false_eq_true, or_false] at q
  rcases q with q | q
  · split at q
    · cases h3
    · cases q
  · split at q
    · cases h4
    · cases q
theorem zGet_frz {K : Frag} {G : Hp} {z : ZSt} {M : Mem} {σ : L2.St} {H : Hp} {p : Addr} {xs : List PV} (s : ZS K G0 z M G σ H) (h : refL M p = some xs) : ∃ G', Same G G' ∧ ZS K G0 (zfrz p xs z) (mdel M p) G' σ H := by
  have hM := refL_ok h
  obtain ⟨gp, u, h1, h2⟩ := s.mem p _ hM
  cases h2 with
  | lst h2 h3 =>
  rename_i vs
  have e : Same G (upd G p (.lst vs)) := same_upd gp
  refine ⟨upd G p (.lst vs), e, ⟨s.le.trans e, fun a o q => ?_, fun a o q => ?_, by unfold zfrz; rw [List.length_map]; exact s.len, fun i x q => ?_⟩⟩
  · by_cases hb : a = p
    · subst hb; rw [upd_same] at q; rw [← q]; exact h1
    · rw [upd_ne hb] at q; exact s.sub _ _ q
  · unfold mdel at q
    split at q
    · cases q
    · rename_i hb
      obtain ⟨g1, u, g2, g3⟩ := s.mem a o q
      exact ⟨by rw [upd_ne hb]; exact g1, u, g2, g3.mono e⟩
  · unfold zfrz at q
    rw [List.getElem?_map] at q
    cases e1 : z[i]? with
    | none => rw [e1] at q; cases q
    | some o =>
      rw [e1] at q
      cases o with
      | none => cases q
      | some y =>
        have q' : frzV p xs y = x := by simpa using q
        obtain ⟨v, g1, g2⟩ := s.slot i y e1
        refine ⟨v, g1, ?_⟩
        subst q'
        cases y with
        | ref a =>
          show Rep _ _ (if a = p then .lst xs else .ref a) v
          by_cases ha : a = p
          · rw [if_pos ha]
            cases g2
            rw [ha]
            exact .lst upd_same (h2.mono e) h3
          · rw [if_neg ha]
            exact g2.mono e
        | _ => exact g2.mono e
theorem s_frz {t : ZTS} {sts : List Stmt} {i : Nat} (h : PSs X sts (upS X.K G0 W t)) : PSs X sts (upS X.K G0 W (zsFrz i t)) := PSs.imp h fun D σ H h => by
  obtain ⟨z, M, G, Dz, Ez, s, xl, t, k⟩ := h
  unfold zsFrz at t
  split at t
  · split at t
    · rename_i e
      obtain ⟨G', e', s'⟩ := zGet_frz s e
      exact ⟨_, _, G', Dz, Ez, s', xl, t, k⟩
    · exact t.elim
  · exact t.elim
mutual
theorem sS : (is : IS) → ∀ {T : Tx} {k : Nat} {c : CP} {X : Cx} {W : WX} {G0 : Hp} {st : Stmt}, OkX T k c X W → chkS c is st = true → PS X st (upS X.K G0 W (zS T k is))
  | .asg g e, T, k, c, X, W, G0, st, o, h => by
    unfold chkS at h
    split at h <;> try (cases h; done)
    rename_i tg e' pos
    simp only [Bool.and_eq_true] at h
    obtain ⟨⟨⟨h1, h2⟩, h3⟩, h4⟩ := h
    have ge := (sET e (W := W) (G0 := G0) o h2).1
    have gg := g_ok o h1
    cases tg with
    | Name x p =>
      cases g with
      | nm i =>
        unfold chkG chkNm at h1
        simp only [Bool.and_eq_true, decide_eq_true_eq] at h1
        obtain ⟨q1, q2⟩ := o.loc h1.2
        exact s_set (by rw [o.N]; exact o.nd) (by rw [o.N]; exact h1.1) q1 ge (swaps_ok h3 _ _ _) q2
      | tup is => unfold chkG at h1; cases h1
    | Tuple ts kk p =>
      refine s_asg ge gg (by rw [sole]; exact swaps_ok h3 _ _ _) ?_ rfl
      unfold swappedStores
      cases e' with
      | Tuple => cases h4
      | _ => rfl
    | _ => cases h4
  | .setL mu i l, T, k, c, X, W, G0, st, o, h => by
    unfold chkS at h
    split at h <;> try (cases h; done)
    rename_i y py elt' gs scope pos spos
    simp only [Bool.and_eq_true, decide_eq_true_eq] at h
    obtain ⟨⟨⟨⟨h1, h2⟩, h3⟩, h4⟩, h5⟩ := h
    cases l with
    | lc elt g it ifs own =>
      unfold chkA at h1
      dsimp only at h1
      split at h1 <;> try (cases h1; done)
      rename_i tg it' ifs' eg
      obtain rfl := oneComp_ok eg
      simp only [Bool.and_eq_true, decide_eq_true_eq] at h1
      obtain ⟨⟨⟨⟨⟨a1, a2⟩, a3⟩, a4⟩, a5⟩, a6⟩ := h1
      have ok : BlkOk X.N X.env.scope scope own := by rw [o.N, o.sc]; exact blkOk_by a1
      obtain ⟨g1, g2⟩ := sI it (G0 := G0) (W := W) (tg := tg) o a3
      exact s_setLc o.calm (by rw [o.N]; exact o.nd) (by rw [o.N]; exact h2) (by rw [o.sc]; exact h3) (sw_true (by rw [o.sc]; exact o.sk) (by rw [o.sc]; exact h3) h4 (not_eq_true' h5)) g1 ok a2 (fun s H C cl fp => g_ok (o.blk ok.kind) a4) (fun G0 s H C cl fp => sIf ifs (o.blk ok.kind) a5) (fun G0 s H C cl fp => (sET elt (o.blk ok.kind) a6).1) g2
    | _ => unfold chkA at h1; cases h1
  | .par i j a b, T, k, c, X, W, G0, st, o, h => by
    unfold chkS at h
    split at h <;> try (cases h; done)
    rename_i x px y py kt pt a' b' k2 pt2 pos
    simp only [Bool.and_eq_true, decide_eq_true_eq] at h
    obtain ⟨⟨⟨⟨⟨⟨⟨h1, h2⟩, h3⟩, h4⟩, h5⟩, h6⟩, h7⟩, h8⟩ := h
    have n7 := h7
    unfold swapB at n7
    simp only [Bool.and_eq_true] at n7
    have hij : i ≠ j := fun e => by rw [e] at h8; simp at h8
    exact s_par o.calm (by rw [o.N]; exact o.nd) (by rw [o.N]; exact h3) (by rw [o.N]; exact h4) hij (by rw [o.sc]; exact h5) (by rw [o.sc]; exact h6)
      (z_cons (sET a o h1).1 (z_cons (sET b o h2).1 z_nil (starEach_cons (noStar_ne n7.1.1.2))) (starEach_cons (noStar_ne n7.1.1.1.2))) (swapB_ok h7 (by rw [o.sc]; exact o.sk) (by rw [o.sc]; exact h5) (by rw [o.sc]; exact h6)) rfl
  | .expr e, T, k, c, X, W, G0, st, o, h => by
    unfold chkS at h
    split at h <;> try (cases h; done)
    simp only [Bool.and_eq_true] at h
    exact s_expr (sET e o h.1).1 (swaps_ok h.2 _ _ _)
  | .doc, T, k, c, X, W, G0, st, o, h => by
    unfold chkS at h
    split at h <;> try (cases h; done)
    exact s_doc
  | .ret e, T, k, c, X, W, G0, st, o, h => by
    unfold chkS at h
    split at h <;> try (cases h; done)
    exact s_ret (sET e o h).1
  | .retN, T, k, c, X, W, G0, st, o, h => by
    unfold chkS at h
    split at h <;> try (cases h; done)
    exact s_retN
  | .ife t a b, T, k, c, X, W, G0, st, o, h => by
    unfold chkS at h
    split at h <;> try (cases h; done)
    simp only [Bool.and_eq_true] at h
    exact s_if (sET t o h.1.1).2 (sSs a o h.1.2) (sSs b o h.2)
  | .for g it b, T, k, c, X, W, G0, st, o, h => by
    unfold chkS at h
    split at h <;> try (cases h; done)
    simp only [Bool.and_eq_true] at h
    obtain ⟨g1, g2⟩ := sI it (G0 := G0) (W := W) o h.1.1
    exact s_for o.po o.calm g1 (g_ok o h.1.2) (fun G0 => sSs b o h.2) g2
  | .whl t b, T, k, c, X, W, G0, st, o, h => by
    unfold chkS at h
    split at h <;> try (cases h; done)
    simp only [Bool.and_eq_true] at h
    exact s_while o.po (sET t o h.1).2 (sSs b o h.2)
  | .pass, T, k, c, X, W, G0, st, o, h => by
    unfold chkS at h
    split at h <;> try (cases h; done)
    exact s_pass
  | .brk, T, k, c, X, W, G0, st, o, h => by
    unfold chkS at h
    split at h <;> try (cases h; done)
    exact s_break
  | .cont, T, k, c, X, W, G0, st, o, h => by
    unfold chkS at h
    split at h <;> try (cases h; done)
    exact s_cont
  | .setAt ro i e, T, k, c, X, W, G0, st, o, h => by
    unfold chkS at h
    split at h <;> try (cases h; done)
    rename_i o' i' p1 e' pos
    simp only [Bool.and_eq_true] at h
    obtain ⟨⟨⟨⟨h1, h2⟩, h3⟩, h4⟩, h5⟩ := h
    refine s_set_ix (by have := o.room.un; omega) (sET e o h3).1 (sET ro o h1).1 (sET i o h2).1 (fun v => ?_) (by rw [sole]; exact swaps_ok h5 _ _ _) ?_
    · cases i' with
      | Slice => cases h4
      | _ => rfl
    · unfold swappedStores
      cases e' <;> rfl
theorem sSs : (is : ISs) → ∀ {T : Tx} {k : Nat} {c : CP} {X : Cx} {W : WX} {G0 : Hp} {sts : List Stmt}, OkX T k c X W → chkSs c is sts = true → PSs X sts (upS X.K G0 W (zSs T k is))
  | .nil, T, k, c, X, W, G0, sts, o, h => by
    unfold chkSs at h
    split at h <;> try (cases h; done)
    exact s_nil
  | .cons s r, T, k, c, X, W, G0, sts, o, h => by
    unfold chkSs at h
    split at h <;> try (cases h; done)
    simp only [Bool.and_eq_true] at h
    exact s_cons (sS s o h.1) (sSs r o h.2)
  | .frz i r, T, k, c, X, W, G0, sts, o, h => by
    unfold chkSs at h
    exact s_frz (sSs r o h)
end
end
end Zz
end
section
namespace Zz
open PySem PySem.Spec PyProof.Rows L2

/-! ### the text's defs, as they stand behind the top -/
structure DDef where
  nm : Str
  st : Stmt
  N : List Str
  ps : List Str
  ir : ISs
def DDef.he (d : DDef) : He.DefD := ⟨(d.nm, none), d.nm, d.nm, defArgs d.st, defBody d.st, defScope d.st, [], []⟩
theorem zfn_ofD {T : Tx} {k : Nat} {x qual : Str} {params : Arguments} {body : List Stmt} {scope : Scope} {fa : Addr} {fd : FuncData} {N ps : List Str} {t : ZTS} (F : FunD T.K x qual params body scope [] [] fa fd) (S : FnScope N ps scope) (hB : Binds T.K fd ps [])
    (hbody : ∀ (X : Cx) (W : WX) (G0 : Hp), X.prog = T.P → X.w = T.w → X.K = T.K → X.mg = T.mg → X.base = T.base → X.N = N → X.env.scope = scope → (∀ y, X.fn y = true) → Room k X.A → X.calm = true → Takes X W → PassesOwn (model X.prog X.w) X.A X.env X.xe →
      X.stack = X.env :: X.outer → X.env.frame = some X.env.locals → PSs X body (upS X.K G0 W t)) : ZFn T (k + 1) fa fd ps (zsp N t) := by
  refine ⟨hB, F.ok S (fun vs H Q E h => FnOk_len h) fun cdv A outer s H vs Q E hr h => ?_⟩
  obtain ⟨G, xs, M, Qz, Ez, e1, m1, r1, hl, hs, hq, he⟩ := h
  let X := cxOf (CX T.P T.w) T.P T.w T.K T.mg T.base N qual scope fa cdv A outer s H E
  have tk : Takes X (fun cls d _ H => E cls d H) := takes_of rfl rfl rfl rfl
  refine ⟨_, hbody X _ G rfl rfl rfl rfl rfl rfl rfl (fun _ => rfl) hr rfl tk (passes_of rfl) rfl rfl, ?_⟩
  refine ⟨zstart N xs, M, G, zEnds Qz, _, ⟨Same.refl _, e1, m1, ?_, fun i x hx => ?_⟩, fun C fs z M' G' σ' H' d s' r' q' => he C fs M' G' H' d s'.le s'.sub s'.mem r' q', hs, ?_⟩
  · unfold zstart L2.start
    rw [List.length_append, List.length_append, List.length_map, List.length_map, List.length_replicate, List.length_replicate, r1.length]
  · unfold zstart at hx
    unfold L2.start
    by_cases hi : i < xs.length
    · rw [List.getElem?_append_left (by simpa using hi), List.getElem?_map] at hx
      rw [List.getElem?_append_left (by simpa [← r1.length] using hi), List.getElem?_map]
      cases e : xs[i]? with
      | none => rw [e] at hx; cases hx
      | some y =>
        rw [e] at hx
        cases hx
        obtain ⟨v, h1, h2⟩ := r1.get e
        exact ⟨v, by rw [h1]; rfl, h2⟩
    · rw [List.getElem?_append_right (by simpa using hi), List.getElem?_replicate] at hx
      split at hx <;> cases hx
  · have drop : ∀ {z : ZSt} {M1 M' : Mem} {G' : Hp} {σ' : L2.St} {H' : Hp}, ZS T.K G z M1 G' σ' H' → subM M' M1 → MemOk T.K G' M' H' := fun s' hm a o q => s'.mem a o (hm a o q)
    refine ⟨fun z M1 G' σ' H' s' q => ?_, fun z x M1 G' σ' H' v s' r q => ?_, fun z M1 G' σ' H' s' q => q, fun z M1 G' σ' H' s' q => q⟩
    · obtain ⟨M', hm, q⟩ := q
      exact hq _ M' G' H' _ s'.le s'.sub (drop s' hm) .non q
    · obtain ⟨M', hm, q⟩ := q
      exact hq _ M' G' H' _ s'.le s'.sub (drop s' hm) r q
/-- what the top has left: built-ins' names free, the defs, the constants -/
structure Env (cs : List (Str × IC)) (fs : List Str) (ds : List DDef) (T : Tx) : Prop where
  blt : ∀ x ∈ bltNames, T.mg x = none
  fs : ∀ f ∈ fs, ∃ fa, T.mg f = some (.ref fa) ∧ PySem.W.keepIn T.K (.ref fa) = true
  cs : ∀ p ∈ cs, ∃ u, T.mg p.1 = some u ∧ RelV p.2.v u
  df : ∀ d ∈ ds, T.mg d.nm = some (.ref (He.ga T.K d.nm)) ∧ ∃ fd, FunD T.K d.nm d.nm (defArgs d.st) (defBody d.st) (defScope d.st) [] [] (He.ga T.K d.nm) fd
def BindsD (d : DDef) : Prop := ∀ (kV doc pm : Value) (an : Option Addr) (cdv ct : Value) (us : List Value), us.length = d.ps.length → bindArgs (PySem.W.fnOf d.nm d.nm (defArgs d.st) (defBody d.st) (defScope d.st) .none kV doc pm an cdv ct) ⟨us, []⟩ = pure (d.ps.zip us)
section
variable {cs : List (Str × IC)} {fs : List Str} {ds : List DDef} {T : Tx}
theorem Env.fn (E : Env cs fs ds T) {d : DDef} (h : d ∈ ds) (S : FnScope d.N d.ps (defScope d.st)) (B : BindsD d) (ck : chkSs ⟨d.N, defScope d.st, fun _ => true, cs, fs⟩ d.ir (defBody d.st) = true) (k : Nat) :
    T.mg d.nm = some (.ref (He.ga T.K d.nm)) ∧ ∃ fd, ZFn T (k + 1) (He.ga T.K d.nm) fd d.ps (zsp d.N (zSs T k d.ir)) := by
  obtain ⟨h1, fd, F⟩ := E.df d h
  refine ⟨h1, fd, zfn_ofD F S (F.bindsN B) fun X W G0 hP hw hK hmg hb hN hsc hfn hr hc tk po hst hfr => ?_⟩
  exact sSs d.ir ⟨hP, hw, hK, hmg, hb, hN, S.nd, hsc, S.kind, fun x _ => hfn x, hr, hc, tk, po, ⟨E.blt, E.fs, E.cs⟩⟩ ck
theorem Env.call (E : Env cs fs ds T) {d : DDef} (h : d ∈ ds) (S : FnScope d.N d.ps (defScope d.st)) (B : BindsD d) (ck : chkSs ⟨d.N, defScope d.st, fun _ => true, cs, fs⟩ d.ir (defBody d.st) = true) {k : Nat} {xs : List PV} {M : Mem} {Q : ZK} {Ex : ZX}
    (hl : xs.length = d.ps.length) (q : zsp d.N (zSs T k d.ir) xs M Q Ex) : ZCall T (k + 1) d.nm xs M Q Ex := by
  obtain ⟨h1, fd, F⟩ := E.fn h S B ck k
  exact F.call (Nat.le_refl _) h1 hl q
theorem Env.fnAt (E : Env cs fs ds T) {d : DDef} {fd : FuncData} (F : FunD T.K d.nm d.nm (defArgs d.st) (defBody d.st) (defScope d.st) [] [] (He.ga T.K d.nm) fd) (S : FnScope d.N d.ps (defScope d.st)) (B : BindsD d) (ck : chkSs ⟨d.N, defScope d.st, fun _ => true, cs, fs⟩ d.ir (defBody d.st) = true) (k : Nat) :
    ZFn T (k + 1) (He.ga T.K d.nm) fd d.ps (zsp d.N (zSs T k d.ir)) := by
  refine zfn_ofD F S (F.bindsN B) fun X W G0 hP hw hK hmg hb hN hsc hfn hr hc tk po hst hfr => ?_
  exact sSs d.ir ⟨hP, hw, hK, hmg, hb, hN, S.nd, hsc, S.kind, fun x _ => hfn x, hr, hc, tk, po, ⟨E.blt, E.fs, E.cs⟩⟩ ck
theorem ZCall.mono {k j : Nat} {f : Str} {xs : List PV} {M : Mem} {Q : ZK} {E : ZX} (hk : k ≤ j) (h : ZCall T k f xs M Q E) : ZCall T j f xs M Q E := by
  obtain ⟨fa, hm, fd, ps, sp, F, hl, q⟩ := h
  exact ⟨fa, hm, fd, ps, sp, ⟨F.1, F.2.mono hk⟩, hl, q⟩
end

/-! ### the head's facts -/
def factsOf (cs : List (Str × IC)) (fs : List Str) : List He.Fa := bltNames.map .free ++ fs.map .glo ++ fs.map .keep ++ cs.map fun p => match p.2 with
  | .int n => .int p.1 n
  | .str s => .str p.1 s
theorem says_fact {fa : List He.Fa} {fn : List He.DefD} {K : Frag} (c : He.SaysD fa fn K) {f : He.Fa} (h : f ∈ fa) : f.ok K = true := by
  obtain ⟨i, hi⟩ := List.getElem?_of_mem h
  exact c.fact i hi
theorem says_def {fa : List He.Fa} {fn : List He.DefD} {K : Frag} (c : He.SaysD fa fn K) {d : He.DefD} (h : d ∈ fn) : ∃ fd, FunD K d.name d.qual d.params d.body d.scope (d.dvs K) (d.kws K) (He.fAd K d.at_) fd := by
  obtain ⟨i, hi⟩ := List.getElem?_of_mem h
  exact c.def_ i hi
theorem env_of {cs : List (Str × IC)} {fs : List Str} {ds : List DDef} {P : Program} {w : World} {K : Frag} {mg : Str → Option Value} {base h : Heap} {more : List He.Fa} {fmore : List He.DefD} (hf : ∀ d ∈ ds, d.nm ∈ fs) (X : K.In h) (G : h.Ns mainGlobals mg)
    (c : He.SaysD (factsOf cs fs ++ more) (ds.map DDef.he ++ fmore) K) : Env cs fs ds ⟨P, w, K, mg, base⟩ where
  blt := fun x hx => He.free_ok X G (says_fact c (by unfold factsOf; simp [hx]))
  fs := fun f hx => ⟨He.ga K f, He.glo_ok X G (says_fact c (by unfold factsOf; simp [hx])), He.keep_ok (says_fact c (by unfold factsOf; simp [hx]))⟩
  cs := fun p hx => by
    obtain ⟨x, q⟩ := p
    cases q with
    | int n =>
      obtain ⟨t, e⟩ := He.int_ok (x := x) (i := n) X G (says_fact c (by
        unfold factsOf
        refine List.mem_append_left _ (List.mem_append_right _ (List.mem_map.mpr ⟨_, hx, rfl⟩))))
      exact ⟨_, e, t, rfl⟩
    | str s =>
      obtain ⟨t, e⟩ := He.str_ok (x := x) (z := s) X G (says_fact c (by
        unfold factsOf
        refine List.mem_append_left _ (List.mem_append_right _ (List.mem_map.mpr ⟨_, hx, rfl⟩))))
      exact ⟨_, e, t, rfl⟩
  df := fun d hd => by
    refine ⟨He.glo_ok X G (says_fact c (by unfold factsOf; simp [hf d hd])), ?_⟩
    exact says_def c (d := d.he) (List.mem_append_left _ (List.mem_map.mpr ⟨d, hd, rfl⟩))

/-! ### a law's own def -/
/-- what is to be shown of the law's body -/
def LawOk (T : Tx) (k : Nat) (N : List Str) (ir : ISs) : Prop := ∀ ns : List Int, ns.length ≤ 63 → zsp N (zSs T k ir) [.rol (ns.map .int)] (fun _ => none) (fun x _ => x = .bl true) fun _ _ _ => False
theorem RepA.of_ints {K : Frag} {G : Hp} : ∀ ns : List Int, RepA K G (ns.map .int) (ns.map V.int)
  | [] => .nil
  | n :: ns => .cons (.int n) (RepA.of_ints ns)
theorem law_sp {T : Tx} {k : Nat} {N : List Str} {ir : ISs} (h : LawOk T k N ir) (H : Hp) (a : Addr) (ns : List Int) (hl : ns.length ≤ 63) (hS : SqL T.K H a (ns.map V.int)) :
    liftSp T.K 1 (zsp N (zSs T k ir)) [.ref a] H (fun v _ => v = .bl true) fun _ _ _ => False :=
  ⟨H, [.rol (ns.map .int)], fun _ => none, _, _, Same.refl _, (fun a o q => nomatch q), .cons (.rol hS (RepA.of_ints ns) (by rw [List.length_map]; exact Nat.le_trans hl (by decide))) .nil, rfl, h ns hl, fun x M' G' H' v _ _ _ r q => by
    subst q
    cases r
    rfl, fun C fs M' G' H' d _ _ _ _ q => q⟩
theorem law_facts {cs : List (Str × IC)} {fs : List Str} {ds : List DDef} {more : List He.Fa} {fmore : List He.DefD} {P : Program} {d : DDef} {lv : Nat} {x : Str} (hd : d ∈ ds) (hps : d.ps = [x]) (S : FnScope d.N d.ps (defScope d.st)) (B : BindsD d)
    (ck : chkSs ⟨d.N, defScope d.st, fun _ => true, cs, fs⟩ d.ir (defBody d.st) = true) (hfs : ∀ d ∈ ds, d.nm ∈ fs) (hok : ∀ (w : World) (K : Frag) (mg : Str → Option Value) (base : Heap), Env cs fs ds ⟨P, w, K, mg, base⟩ → LawOk ⟨P, w, K, mg, base⟩ lv d.N d.ir)
    {w : World} {K : Frag} {h : Heap} {mg : Str → Option Value} {f : Addr} (X : K.In h) (G : h.Ns mainGlobals mg) (hfa : mg d.nm = some (.ref f)) (c : He.SaysD (factsOf cs fs ++ more) (ds.map DDef.he ++ fmore) K) :
    ∃ (fd : FuncData) (sp : Sp), (∀ (s : Shared) (v : Value), BindsTo s fd ⟨[v], []⟩ [(x, v)]) ∧ (∀ (H : Hp) (a : Addr) (ns : List Int), ns.length ≤ 63 → Only H → SqL K H a (ns.map V.int) → sp [.ref a] H (fun v _ => v = .bl true) fun _ _ _ => False) ∧ ∀ base : Heap, K.In base → base.Ns mainGlobals mg → FnOk P w K mg base (CX P w) (lv + 1) f fd [x] sp := by
  have E0 : ∀ base, K.In base → base.Ns mainGlobals mg → Env cs fs ds ⟨P, w, K, mg, base⟩ := fun base X G => env_of hfs X G c
  obtain ⟨h1, fd, F1⟩ := (E0 h X G).df d hd
  have e := hfa.symm.trans h1
  cases e
  have b := FunD.bindsA (ps := [x]) F1 (fun kV doc pm an cdv ct us hl => by rw [← hps]; rw [← hps] at hl; exact B kV doc pm an cdv ct us hl)
  refine ⟨fd, fun vs H Q E => ∀ base : Heap, K.In base → base.Ns mainGlobals mg → liftSp K 1 (zsp d.N (zSs ⟨P, w, K, mg, base⟩ lv d.ir)) vs H Q E, fun s v => b s [v] rfl, fun H a ns hl _ hS base X G => law_sp (T := ⟨P, w, K, mg, base⟩) (hok w K mg base (E0 base X G)) H a ns hl hS, fun base X G => ?_⟩
  have F2 := ((E0 base X G).fnAt F1 S B ck lv).2
  rw [hps] at F2
  exact F2.imp fun vs H Q E q => q base X G
theorem walk_ofEW {l : PySem.W.OpenLaw} {n k : Nat} {q : Program} {loose : List Str} {XP : (Str → Option Value) → Heap → Prop} {YP : World → Heap → Prop} {d : DefRec} {x : Str}
    (hn : l.most = some n) (hn2 : n ≤ sizeLine) (hdf : d.params.defaults = []) (hr : Room k callerA)
    (F : ∀ (w : World) (mg : Str → Option Value) (fa : Addr) (h : Heap), YP w h → h.Ns mainGlobals mg → mg d.name = some (.ref fa) →
      ∃ (K : Frag) (fd : FuncData) (sp : Sp), K.In h ∧ (∀ (s : Shared) (u : Value), BindsTo s fd ⟨[u], []⟩ [(x, u)]) ∧
        (∀ (H : Hp) (a : Addr) (ns : List Int), ns.length ≤ n → Only H → SqL K H a (ns.map V.int) → sp [.ref a] H (fun v _ => v = .bl true) fun _ _ _ => False) ∧
        ∀ base : Heap, K.In base → base.Ns mainGlobals mg → FnOk l.prog w K mg base (CX l.prog w) k fa fd [x] sp) :
    PySem.W.WalkO q loose XP YP l.row.toRowW d [] (fun f vs => PySem.call f vs) := by
  refine Att.attach_call hn hdf fun w s₀ s₁ mg mb fa o pm cd doc a vs ns G Y ho hd hcd hmg hobj hints hlen hg => ?_
  obtain ⟨K, fd, sp, KX, hb, hsp, hF⟩ := F w mg fa _ Y G.T.g hmg
  exact law_call KX G.T.g G.T.b G.T.builtins G.T.nolimit hg hobj hints (Nat.le_trans hlen hn2) hr hF hb (fun H hO hS => hsp H a ns hlen hO hS) fun H e s' h => by
    obtain ⟨_, _, _, _, _, _, _, _, _, _, _, _, q⟩ := h
    exact q
end Zz
end
section
namespace Zz
open PySem PySem.Spec PyProof.Rows L2
/-! ### plain laws' tools -/
inductive All2 (P : PV → PV → Prop) : List PV → List PV → Prop
  | nil : All2 P [] []
  | cons {x y : PV} {xs ys : List PV} : P x y → All2 P xs ys → All2 P (x :: xs) (y :: ys)
theorem ret_same {Q : ZK} {x : PV} {M : Mem} (h : Q x M) : ∃ M', subM M' M ∧ Q x M' := ⟨M, fun _ _ h => h, h⟩
theorem subM_mset {M : Mem} {p : Addr} {o : MObj} (h : M p = none) : subM M (mset M p o) := fun a u q => by
  unfold mset
  by_cases e : a = p
  · subst e; rw [h] at q; cases q
  · rw [if_neg e]; exact q
theorem ret_new {Q : ZK} {x : PV} {M : Mem} {p : Addr} {o : MObj} (hp : M p = none) (h : Q x M) : ∃ M', subM M' (mset M p o) ∧ Q x M' := ⟨M, subM_mset hp, h⟩
theorem refL_mset {M : Mem} {p : Addr} {xs : List PV} : refL (mset M p (.lst xs)) p = some xs := by
  unfold refL
  rw [mset_same]
theorem asL_mset {M : Mem} {p : Addr} {xs : List PV} : asL (mset M p (.lst xs)) (.ref p) = some xs := refL_mset
theorem asS_mset {M : Mem} {p : Addr} {xs : List PV} : asS (mset M p (.lst xs)) (.ref p) = some xs := refL_mset
theorem asW_mset {M : Mem} {p : Addr} {xs : List PV} : asW (mset M p (.lst xs)) (.ref p) = some xs := refL_mset
theorem isDct_mset {M : Mem} {p : Addr} {xs : List PV} : isDct (mset M p (.lst xs)) (.ref p) = false := by
  unfold isDct
  simp only [mset_same]
theorem tyP_mset {M : Mem} {p : Addr} {xs : List PV} : tyP (mset M p (.lst xs)) (.ref p) = some "list" := by
  unfold tyP
  simp only [mset_same]
theorem rs_mset {M : Mem} {p : Addr} {xs : List PV} : rs (mset M p (.lst xs)) (.ref p) = .lst xs := by
  unfold rs
  simp only [refL_mset]
theorem lc_go {g : ZTG} {te : ZTE} {zw : ZSt} {Q : List PV → Mem → Prop} {M : Mem} {D : Addr} (P : PV → PV → Prop) (hD : M D = none) : ∀ (xs acc : List PV),
    (∀ x ∈ xs, ∀ (N : Mem) (R : ZK), (∀ y, P x y → R y N) → g x zw fun z' => te EF z' N R) →
    (∀ ys, All2 P xs ys → Q (acc ++ ys) M) → zLcGo g zYes te zw D Q acc xs (mset M D (.lst acc))
  | [], acc, _, q => by
    have e := q [] .nil
    rw [List.append_nil] at e
    show Q acc (mdel _ _)
    rw [mdel_mset hD]
    exact e
  | x :: xs, acc, h, q => by
    have h1 := h x (List.mem_cons_self ..) (mset M D (.lst acc)) (fun y M2 => M2 D = some (.lst acc) ∧ zLcGo g zYes te zw D Q (acc ++ [y]) xs (mset M2 D (.lst (acc ++ [y])))) fun y hy => by
      refine ⟨mset_same, ?_⟩
      rw [mset_mset]
      refine lc_go P hD xs (acc ++ [y]) (fun x hx => h x (List.mem_cons_of_mem _ hx)) fun ys hys => ?_
      rw [List.append_assoc]
      exact q (y :: ys) (.cons hy hys)
    exact h1
/-- a comprehension whose element is told by P -/
theorem lc_all {g : ZTG} {te : ZTE} {zw : ZSt} {Q : List PV → Mem → Prop} {M : Mem} (P : PV → PV → Prop) (xs : List PV)
    (h : ∀ x ∈ xs, ∀ (N : Mem) (R : ZK), (∀ y, P x y → R y N) → g x zw fun z' => te EF z' N R)
    (q : ∀ ys, All2 P xs ys → Q ys M) : ∀ D, M D = none → zLcGo g zYes te zw D Q [] xs (mset M D (.lst [])) :=
  fun D hD => lc_go P hD xs [] h q
theorem forall2_map {f : PV → PV} : ∀ {xs ys : List PV}, All2 (fun x y => y = f x) xs ys → ys = xs.map f
  | _, _, .nil => rfl
  | _, _, .cons h t => by rw [List.map_cons, h, forall2_map t]
theorem forall2_len {P : PV → PV → Prop} : ∀ {xs ys : List PV}, All2 P xs ys → ys.length = xs.length
  | _, _, .nil => rfl
  | _, _, .cons _ t => by simp [forall2_len t]
theorem forall2_mem {P : PV → PV → Prop} {R : PV → Prop} : ∀ {xs ys : List PV}, All2 P xs ys → (∀ x y, x ∈ xs → P x y → R y) → ∀ y ∈ ys, R y
  | _, _, .nil, _, y, h => nomatch h
  | _, _, .cons h t, r, y, hy => by
    cases hy with
    | head => exact r _ _ (List.mem_cons_self ..) h
    | tail _ hy => exact forall2_mem t (fun x y hx => r x y (List.mem_cons_of_mem _ hx)) y hy
/-- ..by a map -/
theorem lc_map {g : ZTG} {te : ZTE} {zw : ZSt} {Q : List PV → Mem → Prop} {M : Mem} (f : PV → PV) (xs : List PV)
    (h : ∀ x ∈ xs, ∀ (N : Mem) (R : ZK), R (f x) N → g x zw fun z' => te EF z' N R) (q : Q (xs.map f) M) : ∀ D, M D = none → zLcGo g zYes te zw D Q [] xs (mset M D (.lst [])) :=
  lc_all (fun x y => y = f x) xs (fun x hx N R k => h x hx N R (k _ rfl)) fun ys hys => by rw [forall2_map hys]; exact q
/-- a loop by an invariant over what is left -/
theorem for_inv {g : ZTG} {tb : ZTS} {E : ZE} {D : ZEnds} (I : List PV → ZSt → Mem → Prop) (hn : ∀ z M, I [] z M → D.nx z M)
    (hc : ∀ x r z M (K : ZSt → Mem → Prop), I (x :: r) z M → (∀ z' M', I r z' M' → K z' M') → g x z fun z' => tb E { D with nx := K, ct := K, bk := D.nx } z' M) : ∀ xs z M, I xs z M → zFor g tb E D xs z M
  | [], z, M, h => hn z M h
  | x :: r, z, M, h => hc x r z M _ h fun z' M' q => for_inv I hn hc r z' M' q
theorem atP_get {α : Type} {xs : List α} {i : Int} {k : α → Prop} (h0 : 0 ≤ i) (h1 : i < xs.length) (h : ∀ y, xs[i.toNat]? = some y → k y) : atP xs i k := by
  have e : i.toNat < xs.length := by omega
  unfold atP atI ixN
  rw [if_pos h0, if_pos h1]
  show match xs[i.toNat]? with | some y => k y | none => False
  rw [List.getElem?_eq_getElem e]
  exact h _ (List.getElem?_eq_getElem e)
theorem atP_all {α : Type} {xs : List α} {i : Int} {k : α → Prop} (h0 : 0 ≤ i) (h1 : i < xs.length) (h : ∀ y ∈ xs, k y) : atP xs i k :=
  atP_get h0 h1 fun y hy => h y (List.mem_of_getElem? hy)
theorem atP_mod {α : Type} {xs : List α} {i n : Int} {k : α → Prop} (h0 : 0 < n) (h1 : n ≤ xs.length) (h : ∀ y ∈ xs, k y) : atP xs (i % n) k :=
  atP_all (Int.emod_nonneg _ (by omega)) (by have := Int.emod_lt_of_pos i h0; omega) h
section
variable {M : Mem}
theorem tyP_non : tyP M .non = some "NoneType" := rfl
theorem isDct_non : isDct M .non = false := rfl
theorem rs_non : rs M .non = .non := rfl
theorem tyP_bl (b : Bool) : tyP M (.bl b) = some "bool" := rfl
theorem isDct_bl (b : Bool) : isDct M (.bl b) = false := rfl
theorem rs_bl (b : Bool) : rs M (.bl b) = (.bl b) := rfl
theorem tyP_int (b : Int) : tyP M (.int b) = some "int" := rfl
theorem isDct_int (b : Int) : isDct M (.int b) = false := rfl
theorem rs_int (b : Int) : rs M (.int b) = (.int b) := rfl
theorem tyP_str (b : Str) : tyP M (.str b) = some "str" := rfl
theorem isDct_str (b : Str) : isDct M (.str b) = false := rfl
theorem rs_str (b : Str) : rs M (.str b) = (.str b) := rfl
theorem tyP_tup (b : List PV) : tyP M (.tup b) = some "tuple" := rfl
theorem isDct_tup (b : List PV) : isDct M (.tup b) = false := rfl
theorem rs_tup (b : List PV) : rs M (.tup b) = (.tup b) := rfl
theorem tyP_lst (b : List PV) : tyP M (.lst b) = some "list" := rfl
theorem isDct_lst (b : List PV) : isDct M (.lst b) = false := rfl
theorem rs_lst (b : List PV) : rs M (.lst b) = (.lst b) := rfl
theorem tyP_rol (b : List PV) : tyP M (.rol b) = some "list" := rfl
theorem isDct_rol (b : List PV) : isDct M (.rol b) = false := rfl
theorem rs_rol (b : List PV) : rs M (.rol b) = (.rol b) := rfl
theorem tyP_dct (b : List (Key × PV)) : tyP M (.dct b) = some "dict" := rfl
theorem isDct_dct (b : List (Key × PV)) : isDct M (.dct b) = false := rfl
theorem rs_dct (b : List (Key × PV)) : rs M (.dct b) = (.dct b) := rfl
theorem asL_lst (b : List PV) : asL M (.lst b) = some b := rfl
theorem asL_rol (b : List PV) : asL M (.rol b) = some b := rfl
theorem asS_lst (b : List PV) : asS M (.lst b) = some b := rfl
theorem asS_rol (b : List PV) : asS M (.rol b) = some b := rfl
theorem asS_tup (b : List PV) : asS M (.tup b) = some b := rfl
theorem asW_lst (b : List PV) : asW M (.lst b) = some b := rfl
theorem asT_tup (b : List PV) : asT (.tup b) = some b := rfl
end
def onB (r : PV) (A B : Prop) : Prop := match r with
  | .bl true => A
  | .bl false => B
  | _ => False
theorem onB_bl (b : Bool) (A B : Prop) : onB (.bl b) A B = if b = true then A else B := by cases b <;> simp [onB]
theorem zChain_eq {o o' : ZR2} {za zb zc : ZTE} {E : ZE} {z : ZSt} {M : Mem} {Q : ZK} : zChain o o' za zb zc E z M Q = za E z M fun x M1 => zb E z M1 fun y M2 => o x y M2 fun r M3 => onB r (zc E z M3 fun w M4 => o' y w M4 Q) (Q (.bl false) M3) := rfl
theorem all_id_map {α : Type} (f : α → Bool) (xs : List α) : (xs.map f).all id = xs.all f := by simp
def chOf : PV → Nat
  | .str s => s.cps.toList.headD 0
  | _ => 0
theorem chOf_one (c : Nat) : chOf (.str ⟨#[c]⟩) = c := rfl
theorem atP_0 {α : Type} (a : α) (l : List α) (k : α → Prop) : atP (a :: l) 0 k = k a := by
  unfold atP atI ixN
  have h : (0 : Int) < ((a :: l).length : Int) := by simp only [List.length_cons]; omega
  rw [if_pos (Int.le_refl 0), if_pos h]; rfl
theorem atP_1 {α : Type} (a b : α) (l : List α) (k : α → Prop) : atP (a :: b :: l) 1 k = k b := by
  unfold atP atI ixN
  have h : (1 : Int) < ((a :: b :: l).length : Int) := by simp only [List.length_cons]; omega
  rw [if_pos (by decide), if_pos h]; rfl
theorem atP_2 {α : Type} (a b c : α) (l : List α) (k : α → Prop) : atP (a :: b :: c :: l) 2 k = k c := by
  unfold atP atI ixN
  have h : (2 : Int) < ((a :: b :: c :: l).length : Int) := by simp only [List.length_cons]; omega
  rw [if_pos (by decide), if_pos h]; rfl
theorem flat_ints (ns : List Int) : (ns.map PV.int).all flatP = true := by simp [flatP]
theorem any_ints (ns : List Int) (n : Int) : ((ns.map PV.int).any fun e => eqF e (.int n)) = ns.any (fun e => e == n) := by simp [eqF, List.any_map, Function.comp_def]
theorem cpow9 : CPow 10 9 = True := eq_true ⟨by decide, by decide, by decide⟩
theorem pow9 : (10 : Int) ^ Int.toNat 9 = 1000000000 := by decide
theorem cpow18 : CPow 10 18 = True := eq_true ⟨by decide, by decide, by decide⟩
theorem pow18 : (10 : Int) ^ Int.toNat 18 = 1000000000000000000 := by decide
theorem cpow30 : CPow 10 30 = True := eq_true ⟨by decide, by decide, by decide⟩
theorem pow30 : (10 : Int) ^ Int.toNat 30 = 1000000000000000000000000000000 := by decide
theorem ex2 {α β : Type} {a : α} {b : β} {p : α → β → Prop} : (∃ x y, a = x ∧ b = y ∧ p x y) = p a b := propext ⟨fun ⟨_, _, e, f, h⟩ => by subst e; subst f; exact h, fun h => ⟨_, _, rfl, rfl, h⟩⟩
theorem flatP_non : flatP .non = true := rfl
theorem flatP_bl (b : Bool) : flatP (.bl b) = true := rfl
theorem flatP_int (b : Int) : flatP (.int b) = true := rfl
theorem flatP_str (b : Str) : flatP (.str b) = true := rfl
theorem flatP_tup (b : List PV) : flatP (.tup b) = false := rfl
theorem flatP_lst (b : List PV) : flatP (.lst b) = false := rfl
theorem flatP_dct (b : List (Key × PV)) : flatP (.dct b) = false := rfl
theorem eqF_ss (a b : Str) : eqF (.str a) (.str b) = (a == b) := rfl
theorem eqF_ii (a b : Int) : eqF (.int a) (.int b) = (a == b) := rfl
theorem eqF_bb (a b : Bool) : eqF (.bl a) (.bl b) = (a == b) := rfl
theorem ite_any {c : Prop} {d : Decidable c} {A B : Prop} (h1 : c → A) (h2 : ¬c → B) : @ite Prop c d A B := by
  cases d with
  | isTrue h => exact h1 h
  | isFalse h => exact h2 h
section
variable {M : Mem} {Q : ZK}
theorem zB_Add_i (i j : Int) : zBin .Add (.int i) (.int j) M Q = Q (.int (i + j)) M := rfl
theorem zB_Sub_i (i j : Int) : zBin .Sub (.int i) (.int j) M Q = Q (.int (i - j)) M := rfl
theorem zB_Mult_i (i j : Int) : zBin .Mult (.int i) (.int j) M Q = (CMulW i j ∧ Q (.int (i * j)) M) := rfl
theorem zB_FloorDiv_i (i j : Int) : zBin .FloorDiv (.int i) (.int j) M Q = (CDivW i j ∧ Q (.int (i / j)) M) := rfl
theorem zB_Mod_i (i j : Int) : zBin .Mod (.int i) (.int j) M Q = (0 < j ∧ Q (.int (i % j)) M) := rfl
theorem zB_Pow_i (i j : Int) : zBin .Pow (.int i) (.int j) M Q = (CPow i j ∧ Q (.int (i ^ j.toNat)) M) := rfl
theorem zB_BitAnd_i (i j : Int) : zBin .BitAnd (.int i) (.int j) M Q = Q (.int (Builtin.bitAnd i j)) M := rfl
theorem zB_BitOr_i (i j : Int) : zBin .BitOr (.int i) (.int j) M Q = Q (.int (Builtin.bitOr i j)) M := rfl
theorem zB_Add_s (i j : Str) : zBin .Add (.str i) (.str j) M Q = (i.length + j.length ≤ sizeLine ∧ Q (.str (i ++ j)) M) := rfl
theorem zB_Add_t (i j : List PV) : zBin .Add (.tup i) (.tup j) M Q = (i.length + j.length ≤ sizeLine ∧ Q (.tup (i ++ j)) M) := rfl
theorem zB_Add_l (i j : List PV) : zBin .Add (.lst i) (.lst j) M Q = (i.length + j.length ≤ sizeLine ∧ Q (.lst (i ++ j)) M) := by simp [zBin, asW]
theorem zB_Mul_l (i : List PV) (k : Int) : zBin .Mult (.lst i) (.int k) M Q = (0 ≤ k ∧ k ≤ sizeLine ∧ i.length * k.toNat ≤ sizeLine ∧ Q (.lst (List.replicate k.toNat i).flatten) M) := by simp [zBin, asW]
theorem zIx_tup (xs : List PV) (n : Int) : zIx (.tup xs) (.int n) M Q = atP xs n fun y => Q y M := by simp [zIx, isDct, asS, asT, asL]
theorem zIx_lst (xs : List PV) (n : Int) : zIx (.lst xs) (.int n) M Q = atP xs n fun y => Q y M := by simp [zIx, isDct, asS, asT, asL]
theorem zIx_rol (xs : List PV) (n : Int) : zIx (.rol xs) (.int n) M Q = atP xs n fun y => Q y M := by simp [zIx, isDct, asS, asT, asL]
theorem zIx_str (s : Str) (n : Int) : zIx (.str s) (.int n) M Q = atP s.cps.toList n fun c => Q (.str ⟨#[c]⟩) M := rfl
theorem zIx_mset {p : Addr} (xs : List PV) (n : Int) : zIx (.ref p) (.int n) (mset M p (.lst xs)) Q = atP xs n fun y => Q y (mset M p (.lst xs)) := by simp [zIx, isDct_mset, asS_mset]
theorem zLen_tup (xs : List PV) : zLen [.tup xs] M Q = Q (.int xs.length) M := by simp [zLen, asS, asT, asL]
theorem zLen_lst (xs : List PV) : zLen [.lst xs] M Q = Q (.int xs.length) M := by simp [zLen, asS, asT, asL]
theorem zLen_rol (xs : List PV) : zLen [.rol xs] M Q = Q (.int xs.length) M := by simp [zLen, asS, asT, asL]
theorem zLen_str (s : Str) : zLen [.str s] M Q = Q (.int s.length) M := rfl
theorem zLen_mset {p : Addr} (xs : List PV) : zLen [.ref p] (mset M p (.lst xs)) Q = Q (.int xs.length) (mset M p (.lst xs)) := by simp [zLen, asS_mset]
theorem zInt_i (i : Int) : zInt [.int i] M Q = Q (.int i) M := rfl
theorem zInt_b (b : Bool) : zInt [.bl b] M Q = Q (.int (if b then 1 else 0)) M := rfl
theorem zTuple_t (xs : List PV) : zTuple [.tup xs] M Q = Q (.tup xs) M := rfl
theorem zTuple_l (xs : List PV) : zTuple [.lst xs] M Q = Q (.tup xs) M := by simp [zTuple, asL]
theorem zTuple_m {p : Addr} (xs : List PV) : zTuple [.ref p] (mset M p (.lst xs)) Q = Q (.tup xs) (mset M p (.lst xs)) := by simp [zTuple, asL_mset]
theorem zMax_ii (i j : Int) : zMax [.int i, .int j] M Q = Q (.int (if j > i then j else i)) M := rfl
theorem zMin_ii (i j : Int) : zMin [.int i, .int j] M Q = Q (.int (if j < i then j else i)) M := rfl
theorem zNeg_i (i : Int) : zNeg (.int i) M Q = Q (.int (-i)) M := rfl
theorem zNotV_b (b : Bool) : zNotV (.bl b) M Q = Q (.bl (!b)) M := rfl
theorem zAllAny_l {a : Bool} (xs : List PV) : zAllAny a [.lst xs] M Q = ∃ bs : List Bool, xs = bs.map .bl ∧ Q (.bl (if a then bs.all id else bs.any id)) M := by simp [zAllAny, asL]
theorem wL_mset {p : Addr} {xs : List PV} {k : Addr → List PV → Prop} : wL (mset M p (.lst xs)) (.ref p) k = k p xs := by simp [wL, refL_mset]
theorem szl0 : (0 ≤ sizeLine) = True := eq_true (by decide)
theorem szl1 : (1 ≤ sizeLine) = True := eq_true (by decide)
theorem szl2 : (2 ≤ sizeLine) = True := eq_true (by decide)
theorem szl3 : (3 ≤ sizeLine) = True := eq_true (by decide)
theorem szl4 : (4 ≤ sizeLine) = True := eq_true (by decide)
theorem szl5 : (5 ≤ sizeLine) = True := eq_true (by decide)
theorem szl6 : (6 ≤ sizeLine) = True := eq_true (by decide)
theorem szl7 : (7 ≤ sizeLine) = True := eq_true (by decide)
theorem szl8 : (8 ≤ sizeLine) = True := eq_true (by decide)
theorem szl9 : (9 ≤ sizeLine) = True := eq_true (by decide)
theorem szl10 : (10 ≤ sizeLine) = True := eq_true (by decide)
theorem szl11 : (11 ≤ sizeLine) = True := eq_true (by decide)
theorem szl12 : (12 ≤ sizeLine) = True := eq_true (by decide)
theorem szl13 : (13 ≤ sizeLine) = True := eq_true (by decide)
theorem szl14 : (14 ≤ sizeLine) = True := eq_true (by decide)
theorem szl15 : (15 ≤ sizeLine) = True := eq_true (by decide)
theorem szl16 : (16 ≤ sizeLine) = True := eq_true (by decide)
theorem szl17 : (17 ≤ sizeLine) = True := eq_true (by decide)
theorem szl18 : (18 ≤ sizeLine) = True := eq_true (by decide)
theorem szl19 : (19 ≤ sizeLine) = True := eq_true (by decide)
theorem szl20 : (20 ≤ sizeLine) = True := eq_true (by decide)
theorem szl21 : (21 ≤ sizeLine) = True := eq_true (by decide)
theorem szl22 : (22 ≤ sizeLine) = True := eq_true (by decide)
theorem szl23 : (23 ≤ sizeLine) = True := eq_true (by decide)
theorem szl24 : (24 ≤ sizeLine) = True := eq_true (by decide)
theorem szl25 : (25 ≤ sizeLine) = True := eq_true (by decide)
theorem szl26 : (26 ≤ sizeLine) = True := eq_true (by decide)
theorem szl27 : (27 ≤ sizeLine) = True := eq_true (by decide)
theorem szl28 : (28 ≤ sizeLine) = True := eq_true (by decide)
theorem szl29 : (29 ≤ sizeLine) = True := eq_true (by decide)
theorem szl30 : (30 ≤ sizeLine) = True := eq_true (by decide)
theorem szl31 : (31 ≤ sizeLine) = True := eq_true (by decide)
theorem szl32 : (32 ≤ sizeLine) = True := eq_true (by decide)
theorem szl33 : (33 ≤ sizeLine) = True := eq_true (by decide)
theorem szl34 : (34 ≤ sizeLine) = True := eq_true (by decide)
theorem szl35 : (35 ≤ sizeLine) = True := eq_true (by decide)
theorem szl36 : (36 ≤ sizeLine) = True := eq_true (by decide)
theorem szl37 : (37 ≤ sizeLine) = True := eq_true (by decide)
theorem szl38 : (38 ≤ sizeLine) = True := eq_true (by decide)
theorem szl39 : (39 ≤ sizeLine) = True := eq_true (by decide)
theorem szl40 : (40 ≤ sizeLine) = True := eq_true (by decide)
theorem szl41 : (41 ≤ sizeLine) = True := eq_true (by decide)
theorem szl42 : (42 ≤ sizeLine) = True := eq_true (by decide)
theorem szl43 : (43 ≤ sizeLine) = True := eq_true (by decide)
theorem szl44 : (44 ≤ sizeLine) = True := eq_true (by decide)
theorem szl45 : (45 ≤ sizeLine) = True := eq_true (by decide)
theorem szl46 : (46 ≤ sizeLine) = True := eq_true (by decide)
theorem szl47 : (47 ≤ sizeLine) = True := eq_true (by decide)
theorem szl48 : (48 ≤ sizeLine) = True := eq_true (by decide)
theorem szl49 : (49 ≤ sizeLine) = True := eq_true (by decide)
theorem szl50 : (50 ≤ sizeLine) = True := eq_true (by decide)
theorem szl51 : (51 ≤ sizeLine) = True := eq_true (by decide)
theorem szl52 : (52 ≤ sizeLine) = True := eq_true (by decide)
theorem szl53 : (53 ≤ sizeLine) = True := eq_true (by decide)
theorem szl54 : (54 ≤ sizeLine) = True := eq_true (by decide)
theorem szl55 : (55 ≤ sizeLine) = True := eq_true (by decide)
theorem szl56 : (56 ≤ sizeLine) = True := eq_true (by decide)
theorem szl57 : (57 ≤ sizeLine) = True := eq_true (by decide)
theorem szl58 : (58 ≤ sizeLine) = True := eq_true (by decide)
theorem szl59 : (59 ≤ sizeLine) = True := eq_true (by decide)
theorem szl60 : (60 ≤ sizeLine) = True := eq_true (by decide)
theorem szl61 : (61 ≤ sizeLine) = True := eq_true (by decide)
theorem szl62 : (62 ≤ sizeLine) = True := eq_true (by decide)
theorem szl63 : (63 ≤ sizeLine) = True := eq_true (by decide)
theorem szl64 : (64 ≤ sizeLine) = True := eq_true (by decide)
theorem szl65 : (65 ≤ sizeLine) = True := eq_true (by decide)
theorem szl66 : (66 ≤ sizeLine) = True := eq_true (by decide)
theorem szl67 : (67 ≤ sizeLine) = True := eq_true (by decide)
theorem szl68 : (68 ≤ sizeLine) = True := eq_true (by decide)
theorem szl69 : (69 ≤ sizeLine) = True := eq_true (by decide)
end
theorem mulW {i j : Int} (h1 : -1267650600228229401496703205376 < i) (h2 : i < 1267650600228229401496703205376) (h3 : -1267650600228229401496703205376 < j) (h4 : j < 1267650600228229401496703205376) : CMulW i j := by
  have e : (2 : Nat) ^ 100 = 1267650600228229401496703205376 := by decide
  exact wide_mul (a := 100) (b := 100) (by rw [e]; omega) (by rw [e]; omega) (by decide) (by decide) (by decide)
theorem divW {i j : Int} (h1 : 0 < j) (h2 : j < 1267650600228229401496703205376) : CDivW i j := by
  have e : (2 : Nat) ^ 100 = 1267650600228229401496703205376 := by decide
  exact wide_div (b := 100) h1 (by rw [e]; omega) (by decide) (by decide)
theorem cut_map {α β : Type} (f : α → β) (xs : List α) (lo hi : Option Int) : cut (xs.map f) lo hi = (cut xs lo hi).map f := by
  unfold cut
  rw [List.length_map, ← List.map_drop, ← List.map_take]
theorem rngP_mem {lo : Int} {n : Nat} {x : PV} (h : x ∈ rngP lo n) : ∃ k : Nat, k < n ∧ x = .int (lo + k) := by
  obtain ⟨k, hk, rfl⟩ := List.mem_map.mp h
  exact ⟨k, List.mem_range.mp hk, rfl⟩
theorem rngP_len {lo : Int} {n : Nat} : (rngP lo n).length = n := by simp [rngP]
theorem rngP_ok {lo : Int} {n : Nat} : ∀ x ∈ rngP lo n, ∃ k : Nat, k < n ∧ x = .int (lo + k) := fun x h => rngP_mem h
mutual
def gd : PV → Nat → Bool
  | .non, _ => true
  | .bl _, _ => true
  | .int _, _ => true
  | .str s, _ => s.cps.all (· < 0x110000)
  | .tup xs, n + 1 => gds xs n
  | .lst xs, n + 1 => gds xs n
  | _, _ => false
def gds : List PV → Nat → Bool
  | [], _ => true
  | x :: xs, n => gd x n && gds xs n
end
mutual
theorem gd_ok : ∀ (x : PV) (n : Nat), gd x n = true → pureD x = true ∧ (toD x).canLay0 = true ∧ (toD x).depth ≤ n
  | .non, n, _ => ⟨rfl, by simp only [toD, PyData.canLay0], by simp only [toD, PyData.depth]; omega⟩
  | .bl b, n, _ => ⟨rfl, by simp only [toD, PyData.canLay0], by simp only [toD, PyData.depth]; omega⟩
  | .int b, n, _ => ⟨rfl, by simp only [toD, PyData.canLay0], by simp only [toD, PyData.depth]; omega⟩
  | .str b, n, h => ⟨rfl, by simp only [toD, PyData.canLay0]; unfold gd at h; exact h, by simp only [toD, PyData.depth]; omega⟩
  | .tup xs, 0, h => by unfold gd at h; cases h
  | .lst xs, 0, h => by unfold gd at h; cases h
  | .tup xs, n + 1, h => by
    unfold gd at h
    obtain ⟨a, b, c⟩ := gds_ok xs n h
    exact ⟨by unfold pureD; exact a, by simp only [toD, PyData.canLay0]; exact b, by simp only [toD, PyData.depth]; omega⟩
  | .lst xs, n + 1, h => by
    unfold gd at h
    obtain ⟨a, b, c⟩ := gds_ok xs n h
    exact ⟨by unfold pureD; exact a, by simp only [toD, PyData.canLay0]; exact b, by simp only [toD, PyData.depth]; omega⟩
  | .rol _, _, h => by unfold gd at h; cases h
  | .dct _, _, h => by unfold gd at h; cases h
  | .ref _, _, h => by unfold gd at h; cases h
  | .ty _, _, h => by unfold gd at h; cases h
theorem gds_ok : ∀ (xs : List PV) (n : Nat), gds xs n = true → pureDs xs = true ∧ PyData.canLayAll0 (toDs xs) = true ∧ PyData.depthAll (toDs xs) ≤ n
  | [], n, _ => ⟨rfl, by simp only [toDs, PyData.canLayAll0], by simp only [toDs, PyData.depthAll]; omega⟩
  | x :: xs, n, h => by
    unfold gds at h
    rw [Bool.and_eq_true] at h
    obtain ⟨a, b, c⟩ := gd_ok x n h.1
    obtain ⟨a', b', c'⟩ := gds_ok xs n h.2
    refine ⟨by unfold pureDs; rw [a, a']; rfl, by simp only [toDs, PyData.canLayAll0]; rw [b, b']; rfl, by simp only [toDs, PyData.depthAll]; omega⟩
end
theorem okD_gd {x : PV} {n : Nat} (h : gd x n = true) (hn : n ≤ 64) : okD x = true := by
  obtain ⟨a, b, c⟩ := gd_ok x n h
  unfold okD SeqAt.shaped
  rw [a, b, decide_eq_true (Nat.le_trans c hn)]; rfl
theorem gds_all : ∀ {xs : List PV} {n : Nat}, (∀ x ∈ xs, gd x n = true) → gds xs n = true
  | [], _, _ => rfl
  | x :: xs, n, h => by
    unfold gds
    rw [h x (List.mem_cons_self ..), gds_all fun y hy => h y (List.mem_cons_of_mem _ hy)]; rfl
theorem eqv_nil : (toD (.lst [])).eqv (toD (.lst [])) = true := by decide
theorem okD_nil : okD (.lst []) = true := okD_gd (n := 1) rfl (by decide)
theorem atP_int {ns : List Int} {i : Int} {k : PV → Prop} {P : Int → Prop} (hn : ∀ n ∈ ns, P n) (h0 : 0 ≤ i) (h1 : i < ns.length) (h : ∀ n, P n → k (.int n)) : atP (ns.map .int) i k :=
  atP_all h0 (by rw [List.length_map]; exact h1) fun y hy => by
    obtain ⟨n, hm, rfl⟩ := List.mem_map.mp hy
    exact h n (hn n hm)
theorem dPut_no {M : Mem} {p : Addr} {ys : List PV} {w : PV} {i : Int} {Q : Mem → Prop} (h0 : 0 ≤ i) (h1 : i < ys.length) (h : ∀ j < ys.length, Q (mset M p (.lst (ys.set j w)))) : zSet (.ref p) (.int i) w (mset M p (.lst ys)) Q := by
  unfold zSet
  rw [isDct_mset]
  simp only [Bool.false_eq_true, if_false, wL_mset]
  refine ⟨i, i.toNat, rfl, ?_, ?_⟩
  · unfold ixN
    rw [if_pos h0, if_pos h1]
  · rw [mset_mset]
    exact h _ (by omega)
section
variable {p : Addr} {xs : List PV}
theorem frzV_ref : frzV p xs (.ref p) = .lst xs := if_pos rfl
theorem frzV_non : frzV p xs .non = .non := rfl
theorem frzV_bl (b : Bool) : frzV p xs (.bl b) = (.bl b) := rfl
theorem frzV_int (b : Int) : frzV p xs (.int b) = (.int b) := rfl
theorem frzV_str (b : Str) : frzV p xs (.str b) = (.str b) := rfl
theorem frzV_tup (b : List PV) : frzV p xs (.tup b) = (.tup b) := rfl
theorem frzV_lst (b : List PV) : frzV p xs (.lst b) = (.lst b) := rfl
theorem frzV_rol (b : List PV) : frzV p xs (.rol b) = (.rol b) := rfl
theorem frzV_dct (b : List (Key × PV)) : frzV p xs (.dct b) = (.dct b) := rfl
end
end Zz
end
section
namespace Lk01
open PySem PySem.Spec PyProof.Rows L2 Zz
def top (i : Nat) : Stmt := PySem.Challenge.pw_nearmerge_k01_what_things_rows_and_order.main.body.getD i (.Pass ⟨0, 0, 0, 0⟩)
def csts : List (Str × IC) := [("MOST_THINGS", .int 60), ("LETTERS", .str "abcdefghijklmnopqrstuvwxyz")]
def fns : List Str := ["is_whole", "is_key", "is_thing", "is_row", "is_part", "is_order", "_law_cell", "_law_draws", "_law_word", "_law_whole", "_law_is_key", "_law_is_thing", "_law_is_row", "_law_is_order", "_law_odd", "_law_sign", "_law_key", "_law_other_key", "_law_within", "_law_good_thing", "_law_some_thing", "_law_some_row", "_law_other_part", "_law_some_order", "_law_truth", "_law_told_right", "law"]
/-! is_whole -/
abbrev st_is_whole : Stmt := top 3
def N_is_whole : List Str := ["x"]
def ps_is_whole : List Str := ["x"]
def ir_is_whole : ISs :=
 (.cons (.ret (.bo .And (.cons (.isi (.var 0) "int") (.cons (.notV (.isi (.var 0) "bool")) .nil))))
 .nil)
def cp_is_whole : CP := ⟨N_is_whole, defScope st_is_whole, fun _ => true, csts, fns⟩
theorem ck_is_whole : chkSs cp_is_whole ir_is_whole (defBody st_is_whole) = true := by decide +kernel
theorem sc_is_whole : FnScope N_is_whole ps_is_whole (defScope st_is_whole) := ⟨rfl, rfl, rfl, by decide +kernel, rfl, by decide +kernel, by decide +kernel⟩
def d_is_whole : DDef := ⟨"is_whole", st_is_whole, N_is_whole, ps_is_whole, ir_is_whole⟩
theorem bd_is_whole : BindsD d_is_whole := fun _ _ _ _ _ _ us hl => match us, hl with | [_], _ => rfl
/-! is_key -/
abbrev st_is_key : Stmt := top 4
def N_is_key : List Str := ["x", "sign"]
def ps_is_key : List Str := ["x"]
def ir_is_key : ISs :=
 (.cons (.ife (.call "is_whole" (.cons (.var 0) .nil))
 (.cons (.ret (.chain .Lt .Lt (.neg (.int 1000000000)) (.var 0) (.int 1000000000)))
 .nil) .nil)
 (.cons (.ife (.bo .Or (.cons (.notV (.isi (.var 0) "str")) (.cons (.notV (.chain .LtE .LtE (.int 1) (.bf .len (.cons (.var 0) .nil)) (.int 8))) .nil)))
 (.cons (.ret (.bl false))
 .nil) .nil)
 (.cons (.ret (.bf .all (.cons (.fz (.lc (.cmp .In (.var 1) (.gc "LETTERS" (.str "abcdefghijklmnopqrstuvwxyz"))) (.nm 1) (.val (.var 0)) .nil [("sign", 1)])) .nil)))
 .nil)))
def cp_is_key : CP := ⟨N_is_key, defScope st_is_key, fun _ => true, csts, fns⟩
theorem ck_is_key : chkSs cp_is_key ir_is_key (defBody st_is_key) = true := by decide +kernel
theorem sc_is_key : FnScope N_is_key ps_is_key (defScope st_is_key) := ⟨rfl, rfl, rfl, by decide +kernel, rfl, by decide +kernel, by decide +kernel⟩
def d_is_key : DDef := ⟨"is_key", st_is_key, N_is_key, ps_is_key, ir_is_key⟩
theorem bd_is_key : BindsD d_is_key := fun _ _ _ _ _ _ us hl => match us, hl with | [_], _ => rfl
/-! is_thing -/
abbrev st_is_thing : Stmt := top 5
def N_is_thing : List Str := ["x", "key"]
def ps_is_thing : List Str := ["x"]
def ir_is_thing : ISs :=
 (.cons (.ret (.bo .And (.cons (.isi (.var 0) "tuple") (.cons (.chain .LtE .LtE (.int 1) (.bf .len (.cons (.var 0) .nil)) (.int 4)) (.cons (.bf .all (.cons (.fz (.lc (.call "is_key" (.cons (.var 1) .nil)) (.nm 1) (.val (.var 0)) .nil [("key", 1)])) .nil)) .nil)))))
 .nil)
def cp_is_thing : CP := ⟨N_is_thing, defScope st_is_thing, fun _ => true, csts, fns⟩
theorem ck_is_thing : chkSs cp_is_thing ir_is_thing (defBody st_is_thing) = true := by decide +kernel
theorem sc_is_thing : FnScope N_is_thing ps_is_thing (defScope st_is_thing) := ⟨rfl, rfl, rfl, by decide +kernel, rfl, by decide +kernel, by decide +kernel⟩
def d_is_thing : DDef := ⟨"is_thing", st_is_thing, N_is_thing, ps_is_thing, ir_is_thing⟩
theorem bd_is_thing : BindsD d_is_thing := fun _ _ _ _ _ _ us hl => match us, hl with | [_], _ => rfl
/-! is_row -/
abbrev st_is_row : Stmt := top 6
def N_is_row : List Str := ["x", "thing"]
def ps_is_row : List Str := ["x"]
def ir_is_row : ISs :=
 (.cons (.ret (.bo .And (.cons (.isi (.var 0) "tuple") (.cons (.cmp .LtE (.bf .len (.cons (.var 0) .nil)) (.gc "MOST_THINGS" (.int 60))) (.cons (.bf .all (.cons (.fz (.lc (.call "is_thing" (.cons (.var 1) .nil)) (.nm 1) (.val (.var 0)) .nil [("thing", 1)])) .nil)) .nil)))))
 .nil)
def cp_is_row : CP := ⟨N_is_row, defScope st_is_row, fun _ => true, csts, fns⟩
theorem ck_is_row : chkSs cp_is_row ir_is_row (defBody st_is_row) = true := by decide +kernel
theorem sc_is_row : FnScope N_is_row ps_is_row (defScope st_is_row) := ⟨rfl, rfl, rfl, by decide +kernel, rfl, by decide +kernel, by decide +kernel⟩
def d_is_row : DDef := ⟨"is_row", st_is_row, N_is_row, ps_is_row, ir_is_row⟩
theorem bd_is_row : BindsD d_is_row := fun _ _ _ _ _ _ us hl => match us, hl with | [_], _ => rfl
/-! is_part -/
abbrev st_is_part : Stmt := top 7
def N_is_part : List Str := ["x"]
def ps_is_part : List Str := ["x"]
def ir_is_part : ISs :=
 (.cons (.ife (.bo .Or (.cons (.notV (.isi (.var 0) "tuple")) (.cons (.cmp .NotEq (.bf .len (.cons (.var 0) .nil)) (.int 2)) (.cons (.notV (.call "is_whole" (.cons (.ix (.var 0) (.int 0)) .nil))) (.cons (.notV (.isi (.ix (.var 0) (.int 1)) "str")) .nil)))))
 (.cons (.ret (.bl false))
 .nil) .nil)
 (.cons (.ret (.bo .And (.cons (.chain .LtE .LtE (.int 1) (.ix (.var 0) (.int 0)) (.int 4)) (.cons (.cmp .In (.ix (.var 0) (.int 1)) (.tup (.cons (.str "up") (.cons (.str "down") .nil)))) .nil))))
 .nil))
def cp_is_part : CP := ⟨N_is_part, defScope st_is_part, fun _ => true, csts, fns⟩
theorem ck_is_part : chkSs cp_is_part ir_is_part (defBody st_is_part) = true := by decide +kernel
theorem sc_is_part : FnScope N_is_part ps_is_part (defScope st_is_part) := ⟨rfl, rfl, rfl, by decide +kernel, rfl, by decide +kernel, by decide +kernel⟩
def d_is_part : DDef := ⟨"is_part", st_is_part, N_is_part, ps_is_part, ir_is_part⟩
theorem bd_is_part : BindsD d_is_part := fun _ _ _ _ _ _ us hl => match us, hl with | [_], _ => rfl
/-! is_order -/
abbrev st_is_order : Stmt := top 8
def N_is_order : List Str := ["x", "columns", "part"]
def ps_is_order : List Str := ["x"]
def ir_is_order : ISs :=
 (.cons (.ife (.bo .Or (.cons (.notV (.isi (.var 0) "tuple")) (.cons (.notV (.chain .LtE .LtE (.int 1) (.bf .len (.cons (.var 0) .nil)) (.int 4))) .nil)))
 (.cons (.ret (.bl false))
 .nil) .nil)
 (.cons (.asg (.nm 1) (.mt (.lst .nil)))
 (.cons (.for (.nm 2) (.val (.var 0))
 (.cons (.ife (.bo .Or (.cons (.notV (.call "is_part" (.cons (.var 2) .nil))) (.cons (.cmp .In (.ix (.var 2) (.int 0)) (.var 1)) .nil)))
 (.cons (.ret (.bl false))
 .nil) .nil)
 (.cons (.expr (.lm .append (.var 1) (.cons (.ix (.var 2) (.int 0)) .nil)))
 .nil)))
 (.cons (.ret (.bl true))
 .nil))))
def cp_is_order : CP := ⟨N_is_order, defScope st_is_order, fun _ => true, csts, fns⟩
theorem ck_is_order : chkSs cp_is_order ir_is_order (defBody st_is_order) = true := by decide +kernel
theorem sc_is_order : FnScope N_is_order ps_is_order (defScope st_is_order) := ⟨rfl, rfl, rfl, by decide +kernel, rfl, by decide +kernel, by decide +kernel⟩
def d_is_order : DDef := ⟨"is_order", st_is_order, N_is_order, ps_is_order, ir_is_order⟩
theorem bd_is_order : BindsD d_is_order := fun _ _ _ _ _ _ us hl => match us, hl with | [_], _ => rfl
/-! law cell -/
abbrev st_L_cell : Stmt := top 10
def N_L_cell : List Str := ["_law_script", "_law_k", "_law_state", "_law_cell_here"]
def ps_L_cell : List Str := ["_law_script", "_law_k"]
def ir_L_cell : ISs :=
 (.cons (.ife (.cmp .Lt (.var 1) (.bf .len (.cons (.var 0) .nil)))
 (.cons (.ret (.ix (.var 0) (.var 1)))
 .nil) .nil)
 (.cons (.asg (.nm 2) (.bin .Mod (.bin .Mult (.int 40009) (.bin .Add (.bin .Add (.bin .Mult (.var 1) (.var 1)) (.bin .Mult (.int 3) (.var 1))) (.int 7))) (.int 1000000009)))
 (.cons (.for (.nm 3) (.val (.sl (.var 0) .no (.so (.int 4))))
 (.cons (.asg (.nm 2) (.bin .Mod (.bin .Add (.bin .Mult (.var 2) (.int 50021)) (.var 3)) (.int 1000000009)))
 .nil))
 (.cons (.ret (.var 2))
 .nil))))
def cp_L_cell : CP := ⟨N_L_cell, defScope st_L_cell, fun _ => true, csts, fns⟩
theorem ck_L_cell : chkSs cp_L_cell ir_L_cell (defBody st_L_cell) = true := by decide +kernel
theorem sc_L_cell : FnScope N_L_cell ps_L_cell (defScope st_L_cell) := ⟨rfl, rfl, rfl, by decide +kernel, rfl, by decide +kernel, by decide +kernel⟩
def d_L_cell : DDef := ⟨"_law_cell", st_L_cell, N_L_cell, ps_L_cell, ir_L_cell⟩
theorem bd_L_cell : BindsD d_L_cell := fun _ _ _ _ _ _ us hl => match us, hl with | [_, _], _ => rfl
/-! law draws -/
abbrev st_L_draws : Stmt := top 11
def N_L_draws : List Str := ["_law_cell_here", "_law_many", "_law_left", "_law_state", "_law_some", "_law_k"]
def ps_L_draws : List Str := ["_law_cell_here", "_law_many"]
def ir_L_draws : ISs :=
 (.cons (.asg (.nm 2) (.ix (.fz (.lst (.cons (.int 0) (.cons (.var 0) .nil)))) (.bf .int (.cons (.cmp .GtE (.var 0) (.bin .Pow (.int 10) (.int 18))) .nil))))
 (.cons (.asg (.nm 3) (.bin .Mod (.bin .Add (.bin .Mult (.bin .Mod (.var 0) (.int 998244353)) (.int 7919)) (.int 101)) (.int 998244353)))
 (.cons (.asg (.nm 4) (.mt (.lst .nil)))
 (.cons (.for (.nm 5) (.rng1 (.var 1))
 (.cons (.asg (.nm 3) (.bin .Mod (.bin .Add (.bin .Add (.bin .Mult (.var 3) (.bin .Add (.bin .Mod (.var 3) (.int 32749)) (.int 31337))) (.bin .Mult (.int 613) (.var 5))) (.int 29)) (.int 1000000007)))
 (.cons (.expr (.lm .append (.var 4) (.cons (.ix (.fz (.lst (.cons (.var 3) (.cons (.bin .Mod (.var 2) (.int 1000000)) .nil)))) (.bf .int (.cons (.cmp .Gt (.var 2) (.int 0)) .nil))) .nil)))
 (.cons (.asg (.nm 2) (.bin .FloorDiv (.var 2) (.int 1000000)))
 .nil))))
 (.frz 4 (.cons (.ret (.var 4))
 .nil))))))
def cp_L_draws : CP := ⟨N_L_draws, defScope st_L_draws, fun _ => true, csts, fns⟩
theorem ck_L_draws : chkSs cp_L_draws ir_L_draws (defBody st_L_draws) = true := by decide +kernel
theorem sc_L_draws : FnScope N_L_draws ps_L_draws (defScope st_L_draws) := ⟨rfl, rfl, rfl, by decide +kernel, rfl, by decide +kernel, by decide +kernel⟩
def d_L_draws : DDef := ⟨"_law_draws", st_L_draws, N_L_draws, ps_L_draws, ir_L_draws⟩
theorem bd_L_draws : BindsD d_L_draws := fun _ _ _ _ _ _ us hl => match us, hl with | [_, _], _ => rfl
/-! law word -/
abbrev st_L_word : Stmt := top 12
def N_L_word : List Str := ["_law_x", "_law_y", "_law_number", "_law_word_here", "_law_k"]
def ps_L_word : List Str := ["_law_x", "_law_y"]
def ir_L_word : ISs :=
 (.cons (.asg (.nm 2) (.bin .Add (.bin .Mult (.var 0) (.int 1000003)) (.var 1)))
 (.cons (.asg (.nm 3) (.str ""))
 (.cons (.for (.nm 4) (.rng1 (.bin .Add (.int 1) (.bin .Mod (.var 1) (.int 8))))
 (.cons (.asg (.nm 3) (.bin .Add (.var 3) (.ix (.str "abcdefghijklmnopqrstuvwxyz") (.bin .Mod (.var 2) (.int 26)))))
 (.cons (.asg (.nm 2) (.bin .FloorDiv (.var 2) (.int 26)))
 .nil)))
 (.cons (.ret (.var 3))
 .nil))))
def cp_L_word : CP := ⟨N_L_word, defScope st_L_word, fun _ => true, csts, fns⟩
theorem ck_L_word : chkSs cp_L_word ir_L_word (defBody st_L_word) = true := by decide +kernel
theorem sc_L_word : FnScope N_L_word ps_L_word (defScope st_L_word) := ⟨rfl, rfl, rfl, by decide +kernel, rfl, by decide +kernel, by decide +kernel⟩
def d_L_word : DDef := ⟨"_law_word", st_L_word, N_L_word, ps_L_word, ir_L_word⟩
theorem bd_L_word : BindsD d_L_word := fun _ _ _ _ _ _ us hl => match us, hl with | [_, _], _ => rfl
/-! law whole -/
abbrev st_L_whole : Stmt := top 13
def N_L_whole : List Str := ["_law_thing"]
def ps_L_whole : List Str := ["_law_thing"]
def ir_L_whole : ISs :=
 (.cons (.ret (.bo .And (.cons (.isi (.var 0) "int") (.cons (.notV (.isi (.var 0) "bool")) .nil))))
 .nil)
def cp_L_whole : CP := ⟨N_L_whole, defScope st_L_whole, fun _ => true, csts, fns⟩
theorem ck_L_whole : chkSs cp_L_whole ir_L_whole (defBody st_L_whole) = true := by decide +kernel
theorem sc_L_whole : FnScope N_L_whole ps_L_whole (defScope st_L_whole) := ⟨rfl, rfl, rfl, by decide +kernel, rfl, by decide +kernel, by decide +kernel⟩
def d_L_whole : DDef := ⟨"_law_whole", st_L_whole, N_L_whole, ps_L_whole, ir_L_whole⟩
theorem bd_L_whole : BindsD d_L_whole := fun _ _ _ _ _ _ us hl => match us, hl with | [_], _ => rfl
/-! law is_key -/
abbrev st_L_is_key : Stmt := top 14
def N_L_is_key : List Str := ["_law_thing", "_law_sign_here"]
def ps_L_is_key : List Str := ["_law_thing"]
def ir_L_is_key : ISs :=
 (.cons (.ife (.isi (.var 0) "str")
 (.cons (.ret (.bo .And (.cons (.chain .LtE .LtE (.int 1) (.bf .len (.cons (.var 0) .nil)) (.int 8)) (.cons (.bf .all (.cons (.fz (.lc (.cmp .In (.var 1) (.str "abcdefghijklmnopqrstuvwxyz")) (.nm 1) (.val (.var 0)) .nil [("_law_sign_here", 1)])) .nil)) .nil))))
 .nil) .nil)
 (.cons (.ret (.bo .And (.cons (.call "_law_whole" (.cons (.var 0) .nil)) (.cons (.chain .Lt .Lt (.neg (.bin .Pow (.int 10) (.int 9))) (.var 0) (.bin .Pow (.int 10) (.int 9))) .nil))))
 .nil))
def cp_L_is_key : CP := ⟨N_L_is_key, defScope st_L_is_key, fun _ => true, csts, fns⟩
theorem ck_L_is_key : chkSs cp_L_is_key ir_L_is_key (defBody st_L_is_key) = true := by decide +kernel
theorem sc_L_is_key : FnScope N_L_is_key ps_L_is_key (defScope st_L_is_key) := ⟨rfl, rfl, rfl, by decide +kernel, rfl, by decide +kernel, by decide +kernel⟩
def d_L_is_key : DDef := ⟨"_law_is_key", st_L_is_key, N_L_is_key, ps_L_is_key, ir_L_is_key⟩
theorem bd_L_is_key : BindsD d_L_is_key := fun _ _ _ _ _ _ us hl => match us, hl with | [_], _ => rfl
/-! law is_thing -/
abbrev st_L_is_thing : Stmt := top 15
def N_L_is_thing : List Str := ["_law_thing", "_law_key_here"]
def ps_L_is_thing : List Str := ["_law_thing"]
def ir_L_is_thing : ISs :=
 (.cons (.ret (.bo .And (.cons (.isi (.var 0) "tuple") (.cons (.chain .LtE .LtE (.int 1) (.bf .len (.cons (.var 0) .nil)) (.int 4)) (.cons (.bf .all (.cons (.fz (.lc (.call "_law_is_key" (.cons (.var 1) .nil)) (.nm 1) (.val (.var 0)) .nil [("_law_key_here", 1)])) .nil)) .nil)))))
 .nil)
def cp_L_is_thing : CP := ⟨N_L_is_thing, defScope st_L_is_thing, fun _ => true, csts, fns⟩
theorem ck_L_is_thing : chkSs cp_L_is_thing ir_L_is_thing (defBody st_L_is_thing) = true := by decide +kernel
theorem sc_L_is_thing : FnScope N_L_is_thing ps_L_is_thing (defScope st_L_is_thing) := ⟨rfl, rfl, rfl, by decide +kernel, rfl, by decide +kernel, by decide +kernel⟩
def d_L_is_thing : DDef := ⟨"_law_is_thing", st_L_is_thing, N_L_is_thing, ps_L_is_thing, ir_L_is_thing⟩
theorem bd_L_is_thing : BindsD d_L_is_thing := fun _ _ _ _ _ _ us hl => match us, hl with | [_], _ => rfl
/-! law is_row -/
abbrev st_L_is_row : Stmt := top 16
def N_L_is_row : List Str := ["_law_thing", "_law_part"]
def ps_L_is_row : List Str := ["_law_thing"]
def ir_L_is_row : ISs :=
 (.cons (.ret (.bo .And (.cons (.isi (.var 0) "tuple") (.cons (.cmp .LtE (.bf .len (.cons (.var 0) .nil)) (.int 60)) (.cons (.bf .all (.cons (.fz (.lc (.call "_law_is_thing" (.cons (.var 1) .nil)) (.nm 1) (.val (.var 0)) .nil [("_law_part", 1)])) .nil)) .nil)))))
 .nil)
def cp_L_is_row : CP := ⟨N_L_is_row, defScope st_L_is_row, fun _ => true, csts, fns⟩
theorem ck_L_is_row : chkSs cp_L_is_row ir_L_is_row (defBody st_L_is_row) = true := by decide +kernel
theorem sc_L_is_row : FnScope N_L_is_row ps_L_is_row (defScope st_L_is_row) := ⟨rfl, rfl, rfl, by decide +kernel, rfl, by decide +kernel, by decide +kernel⟩
def d_L_is_row : DDef := ⟨"_law_is_row", st_L_is_row, N_L_is_row, ps_L_is_row, ir_L_is_row⟩
theorem bd_L_is_row : BindsD d_L_is_row := fun _ _ _ _ _ _ us hl => match us, hl with | [_], _ => rfl
/-! law is_order -/
abbrev st_L_is_order : Stmt := top 17
def N_L_is_order : List Str := ["_law_thing", "_law_columns", "_law_part"]
def ps_L_is_order : List Str := ["_law_thing"]
def ir_L_is_order : ISs :=
 (.cons (.ife (.bo .Or (.cons (.notV (.isi (.var 0) "tuple")) (.cons (.notV (.chain .LtE .LtE (.int 1) (.bf .len (.cons (.var 0) .nil)) (.int 4))) .nil)))
 (.cons (.ret (.bl false))
 .nil) .nil)
 (.cons (.asg (.nm 1) (.mt (.lst .nil)))
 (.cons (.for (.nm 2) (.val (.var 0))
 (.cons (.ife (.bo .Or (.cons (.notV (.isi (.var 2) "tuple")) (.cons (.cmp .NotEq (.bf .len (.cons (.var 2) .nil)) (.int 2)) .nil)))
 (.cons (.ret (.bl false))
 .nil) .nil)
 (.cons (.ife (.bo .Or (.cons (.notV (.call "_law_whole" (.cons (.ix (.var 2) (.int 0)) .nil))) (.cons (.notV (.chain .LtE .LtE (.int 1) (.ix (.var 2) (.int 0)) (.int 4))) (.cons (.cmp .In (.ix (.var 2) (.int 0)) (.var 1)) .nil))))
 (.cons (.ret (.bl false))
 .nil) .nil)
 (.cons (.ife (.bo .Or (.cons (.notV (.isi (.ix (.var 2) (.int 1)) "str")) (.cons (.cmp .NotIn (.ix (.var 2) (.int 1)) (.fz (.lst (.cons (.str "up") (.cons (.str "down") .nil))))) .nil)))
 (.cons (.ret (.bl false))
 .nil) .nil)
 (.cons (.expr (.lm .append (.var 1) (.cons (.ix (.var 2) (.int 0)) .nil)))
 .nil)))))
 (.cons (.ret (.bl true))
 .nil))))
def cp_L_is_order : CP := ⟨N_L_is_order, defScope st_L_is_order, fun _ => true, csts, fns⟩
theorem ck_L_is_order : chkSs cp_L_is_order ir_L_is_order (defBody st_L_is_order) = true := by decide +kernel
theorem sc_L_is_order : FnScope N_L_is_order ps_L_is_order (defScope st_L_is_order) := ⟨rfl, rfl, rfl, by decide +kernel, rfl, by decide +kernel, by decide +kernel⟩
def d_L_is_order : DDef := ⟨"_law_is_order", st_L_is_order, N_L_is_order, ps_L_is_order, ir_L_is_order⟩
theorem bd_L_is_order : BindsD d_L_is_order := fun _ _ _ _ _ _ us hl => match us, hl with | [_], _ => rfl
/-! law odd -/
abbrev st_L_odd : Stmt := top 18
def N_L_odd : List Str := ["_law_x", "_law_some"]
def ps_L_odd : List Str := ["_law_x"]
def ir_L_odd : ISs :=
 (.cons (.asg (.nm 1) (.fz (.lst (.cons (.bl true) (.cons (.bl false) (.cons .non (.cons (.str "") (.cons (.str "A") (.cons (.str "a1") (.cons (.str "ab ") (.cons (.str "-1") (.cons (.str "up") (.cons (.tup .nil) (.cons (.tup (.cons (.int 1) .nil)) (.cons (.tup (.cons (.str "a") .nil)) (.cons (.tup (.cons (.tup (.cons (.int 1) .nil)) .nil)) (.cons (.fz (.lst .nil)) (.cons (.fz (.lst (.cons (.int 1) .nil))) (.cons .dct0 (.cons (.dct1 (.int 1) (.int 2)) (.cons (.bin .Pow (.int 10) (.int 9)) (.cons (.neg (.bin .Pow (.int 10) (.int 9))) (.cons (.bin .Pow (.int 10) (.int 30)) (.cons (.str "abcdefghi") (.cons (.str "up\n") (.cons (.fz (.lst (.cons (.fz (.lst .nil)) .nil))) (.cons (.tup (.cons (.fz (.lst (.cons (.int 1) .nil))) .nil)) (.cons (.tup (.cons (.int 1) (.cons (.str "up") .nil))) (.cons (.str "7") .nil)))))))))))))))))))))))))))))
 (.cons (.ret (.ix (.var 1) (.bin .Mod (.var 0) (.bf .len (.cons (.var 1) .nil)))))
 .nil))
def cp_L_odd : CP := ⟨N_L_odd, defScope st_L_odd, fun _ => true, csts, fns⟩
theorem ck_L_odd : chkSs cp_L_odd ir_L_odd (defBody st_L_odd) = true := by decide +kernel
theorem sc_L_odd : FnScope N_L_odd ps_L_odd (defScope st_L_odd) := ⟨rfl, rfl, rfl, by decide +kernel, rfl, by decide +kernel, by decide +kernel⟩
def d_L_odd : DDef := ⟨"_law_odd", st_L_odd, N_L_odd, ps_L_odd, ir_L_odd⟩
theorem bd_L_odd : BindsD d_L_odd := fun _ _ _ _ _ _ us hl => match us, hl with | [_], _ => rfl
/-! law sign -/
abbrev st_L_sign : Stmt := top 19
def N_L_sign : List Str := ["_law_x", "_law_some"]
def ps_L_sign : List Str := ["_law_x"]
def ir_L_sign : ISs :=
 (.cons (.asg (.nm 1) (.str " !\"#$&'()*+,-./0123456789:;<=>?@ABCDEFGHIJKLMNOPQRSTUVWXYZ[\\]^_`abcdefghijklmnopqrstuvwxyz{|}~\n"))
 (.cons (.ret (.ix (.var 1) (.bin .Mod (.var 0) (.bf .len (.cons (.var 1) .nil)))))
 .nil))
def cp_L_sign : CP := ⟨N_L_sign, defScope st_L_sign, fun _ => true, csts, fns⟩
theorem ck_L_sign : chkSs cp_L_sign ir_L_sign (defBody st_L_sign) = true := by decide +kernel
theorem sc_L_sign : FnScope N_L_sign ps_L_sign (defScope st_L_sign) := ⟨rfl, rfl, rfl, by decide +kernel, rfl, by decide +kernel, by decide +kernel⟩
def d_L_sign : DDef := ⟨"_law_sign", st_L_sign, N_L_sign, ps_L_sign, ir_L_sign⟩
theorem bd_L_sign : BindsD d_L_sign := fun _ _ _ _ _ _ us hl => match us, hl with | [_], _ => rfl
/-! law key -/
abbrev st_L_key : Stmt := top 20
def N_L_key : List Str := ["_law_x", "_law_y"]
def ps_L_key : List Str := ["_law_x", "_law_y"]
def ir_L_key : ISs :=
 (.cons (.ife (.cmp .Eq (.bin .Mod (.var 0) (.int 4)) (.int 0))
 (.cons (.ret (.bin .Sub (.bin .Mod (.var 1) (.int 7)) (.int 3)))
 .nil) .nil)
 (.cons (.ife (.cmp .Eq (.bin .Mod (.var 0) (.int 4)) (.int 1))
 (.cons (.ret (.bin .Sub (.bin .Mod (.bin .Add (.bin .Mult (.bin .FloorDiv (.var 0) (.int 4)) (.int 1000003)) (.var 1)) (.int 1999999999)) (.int 999999999)))
 .nil) .nil)
 (.cons (.ife (.cmp .Eq (.bin .Mod (.var 0) (.int 4)) (.int 2))
 (.cons (.ret (.ix (.fz (.lst (.cons (.int 999999999) (.cons (.neg (.int 999999999)) (.cons (.int 0) .nil))))) (.bin .Mod (.bin .FloorDiv (.var 0) (.int 4)) (.int 3))))
 .nil) .nil)
 (.cons (.ret (.call "_law_word" (.cons (.bin .FloorDiv (.var 0) (.int 4)) (.cons (.var 1) .nil))))
 .nil))))
def cp_L_key : CP := ⟨N_L_key, defScope st_L_key, fun _ => true, csts, fns⟩
theorem ck_L_key : chkSs cp_L_key ir_L_key (defBody st_L_key) = true := by decide +kernel
theorem sc_L_key : FnScope N_L_key ps_L_key (defScope st_L_key) := ⟨rfl, rfl, rfl, by decide +kernel, rfl, by decide +kernel, by decide +kernel⟩
def d_L_key : DDef := ⟨"_law_key", st_L_key, N_L_key, ps_L_key, ir_L_key⟩
theorem bd_L_key : BindsD d_L_key := fun _ _ _ _ _ _ us hl => match us, hl with | [_, _], _ => rfl
/-! law other_key -/
abbrev st_L_other_key : Stmt := top 21
def N_L_other_key : List Str := ["_law_x", "_law_y", "_law_word_here", "_law_at"]
def ps_L_other_key : List Str := ["_law_x", "_law_y"]
def ir_L_other_key : ISs :=
 (.cons (.ife (.cmp .Eq (.bin .Mod (.var 0) (.int 3)) (.int 0))
 (.cons (.ret (.call "_law_odd" (.cons (.bin .FloorDiv (.var 0) (.int 3)) .nil)))
 .nil) .nil)
 (.cons (.ife (.cmp .Eq (.bin .Mod (.var 0) (.int 3)) (.int 1))
 (.cons (.ret (.ix (.fz (.lst (.cons (.bin .Add (.bin .Pow (.int 10) (.int 9)) (.var 1)) (.cons (.bin .Sub (.neg (.bin .Pow (.int 10) (.int 9))) (.var 1)) .nil)))) (.bin .Mod (.bin .FloorDiv (.var 0) (.int 3)) (.int 2))))
 .nil) .nil)
 (.cons (.asg (.nm 2) (.call "_law_word" (.cons (.bin .FloorDiv (.var 0) (.int 3)) (.cons (.var 1) .nil))))
 (.cons (.asg (.nm 3) (.bin .Mod (.bin .FloorDiv (.var 1) (.int 8)) (.bin .Add (.bf .len (.cons (.var 2) .nil)) (.int 1))))
 (.cons (.ret (.bin .Add (.bin .Add (.sl (.var 2) .no (.so (.var 3))) (.call "_law_sign" (.cons (.bin .FloorDiv (.var 1) (.int 72)) .nil))) (.sl (.var 2) (.so (.bin .Add (.var 3) (.int 1))) .no)))
 .nil)))))
def cp_L_other_key : CP := ⟨N_L_other_key, defScope st_L_other_key, fun _ => true, csts, fns⟩
theorem ck_L_other_key : chkSs cp_L_other_key ir_L_other_key (defBody st_L_other_key) = true := by decide +kernel
theorem sc_L_other_key : FnScope N_L_other_key ps_L_other_key (defScope st_L_other_key) := ⟨rfl, rfl, rfl, by decide +kernel, rfl, by decide +kernel, by decide +kernel⟩
def d_L_other_key : DDef := ⟨"_law_other_key", st_L_other_key, N_L_other_key, ps_L_other_key, ir_L_other_key⟩
theorem bd_L_other_key : BindsD d_L_other_key := fun _ _ _ _ _ _ us hl => match us, hl with | [_, _], _ => rfl
/-! law within -/
abbrev st_L_within : Stmt := top 22
def N_L_within : List Str := ["_law_parts", "_law_x"]
def ps_L_within : List Str := ["_law_parts", "_law_x"]
def ir_L_within : ISs :=
 (.cons (.ife (.cmp .Eq (.bin .Mod (.var 1) (.int 8)) (.int 0))
 (.cons (.ret (.fz (.lof (.cons (.var 0) .nil))))
 .nil) .nil)
 (.cons (.ife (.cmp .Eq (.bin .Mod (.var 1) (.int 8)) (.int 1))
 (.cons (.ret (.call "_law_odd" (.cons (.bin .FloorDiv (.var 1) (.int 8)) .nil)))
 .nil) .nil)
 (.cons (.ret (.bf .tuple (.cons (.var 0) .nil)))
 .nil)))
def cp_L_within : CP := ⟨N_L_within, defScope st_L_within, fun _ => true, csts, fns⟩
theorem ck_L_within : chkSs cp_L_within ir_L_within (defBody st_L_within) = true := by decide +kernel
theorem sc_L_within : FnScope N_L_within ps_L_within (defScope st_L_within) := ⟨rfl, rfl, rfl, by decide +kernel, rfl, by decide +kernel, by decide +kernel⟩
def d_L_within : DDef := ⟨"_law_within", st_L_within, N_L_within, ps_L_within, ir_L_within⟩
theorem bd_L_within : BindsD d_L_within := fun _ _ _ _ _ _ us hl => match us, hl with | [_, _], _ => rfl
/-! law good_thing -/
abbrev st_L_good_thing : Stmt := top 23
def N_L_good_thing : List Str := ["_law_xs", "_law_k"]
def ps_L_good_thing : List Str := ["_law_xs"]
def ir_L_good_thing : ISs :=
 (.cons (.ret (.bf .tuple (.cons (.fz (.lc (.call "_law_key" (.cons (.ix (.var 0) (.bin .Add (.int 1) (.bin .Mult (.int 2) (.var 1)))) (.cons (.ix (.var 0) (.bin .Add (.int 2) (.bin .Mult (.int 2) (.var 1)))) .nil))) (.nm 1) (.rng1 (.bin .Add (.int 1) (.bin .Mod (.ix (.var 0) (.int 0)) (.int 4)))) .nil [("_law_k", 1)])) .nil)))
 .nil)
def cp_L_good_thing : CP := ⟨N_L_good_thing, defScope st_L_good_thing, fun _ => true, csts, fns⟩
theorem ck_L_good_thing : chkSs cp_L_good_thing ir_L_good_thing (defBody st_L_good_thing) = true := by decide +kernel
theorem sc_L_good_thing : FnScope N_L_good_thing ps_L_good_thing (defScope st_L_good_thing) := ⟨rfl, rfl, rfl, by decide +kernel, rfl, by decide +kernel, by decide +kernel⟩
def d_L_good_thing : DDef := ⟨"_law_good_thing", st_L_good_thing, N_L_good_thing, ps_L_good_thing, ir_L_good_thing⟩
theorem bd_L_good_thing : BindsD d_L_good_thing := fun _ _ _ _ _ _ us hl => match us, hl with | [_], _ => rfl
/-! law some_thing -/
abbrev st_L_some_thing : Stmt := top 24
def N_L_some_thing : List Str := ["_law_xs", "_law_keys", "_law_k"]
def ps_L_some_thing : List Str := ["_law_xs"]
def ir_L_some_thing : ISs :=
 (.cons (.setL true 1 (.lc (.call "_law_key" (.cons (.ix (.var 0) (.bin .Add (.int 3) (.bin .Mult (.int 2) (.var 2)))) (.cons (.ix (.var 0) (.bin .Add (.int 4) (.bin .Mult (.int 2) (.var 2)))) .nil))) (.nm 2) (.rng1 (.bin .Mod (.ix (.var 0) (.int 2)) (.int 6))) .nil [("_law_k", 2)]))
 (.cons (.ife (.bo .And (.cons (.cmp .Gt (.bin .Mod (.ix (.var 0) (.int 0)) (.int 3)) (.int 0)) (.cons (.cmp .NotEq (.var 1) (.fz (.lst .nil))) .nil)))
 (.cons (.setAt (.var 1) (.bin .Mod (.bin .FloorDiv (.ix (.var 0) (.int 0)) (.int 3)) (.bf .len (.cons (.var 1) .nil))) (.call "_law_other_key" (.cons (.ix (.var 0) (.int 13)) (.cons (.ix (.var 0) (.int 14)) .nil))))
 .nil) .nil)
 (.frz 1 (.cons (.ret (.call "_law_within" (.cons (.var 1) (.cons (.ix (.var 0) (.int 1)) .nil))))
 .nil))))
def cp_L_some_thing : CP := ⟨N_L_some_thing, defScope st_L_some_thing, fun _ => true, csts, fns⟩
theorem ck_L_some_thing : chkSs cp_L_some_thing ir_L_some_thing (defBody st_L_some_thing) = true := by decide +kernel
theorem sc_L_some_thing : FnScope N_L_some_thing ps_L_some_thing (defScope st_L_some_thing) := ⟨rfl, rfl, rfl, by decide +kernel, rfl, by decide +kernel, by decide +kernel⟩
def d_L_some_thing : DDef := ⟨"_law_some_thing", st_L_some_thing, N_L_some_thing, ps_L_some_thing, ir_L_some_thing⟩
theorem bd_L_some_thing : BindsD d_L_some_thing := fun _ _ _ _ _ _ us hl => match us, hl with | [_], _ => rfl
/-! law some_row -/
abbrev st_L_some_row : Stmt := top 25
def N_L_some_row : List Str := ["_law_xs", "_law_good", "_law_odd_here", "_law_many", "_law_row", "_law_k"]
def ps_L_some_row : List Str := ["_law_xs", "_law_good", "_law_odd_here"]
def ir_L_some_row : ISs :=
 (.cons (.asg (.nm 3) (.ix (.fz (.lst (.cons (.bin .Mod (.bin .FloorDiv (.ix (.var 0) (.int 2)) (.int 8)) (.int 8)) (.cons (.bin .Add (.int 59) (.bin .Mod (.bin .FloorDiv (.ix (.var 0) (.int 2)) (.int 8)) (.int 3))) .nil)))) (.bf .int (.cons (.cmp .Eq (.bin .Mod (.ix (.var 0) (.int 2)) (.int 8)) (.int 3)) .nil))))
 (.cons (.setL true 4 (.lc (.ix (.var 1) (.bin .Mod (.var 5) (.bf .len (.cons (.var 1) .nil)))) (.nm 5) (.rng1 (.var 3)) .nil [("_law_k", 5)]))
 (.cons (.ife (.bo .And (.cons (.cmp .Gt (.bin .Mod (.ix (.var 0) (.int 0)) (.int 3)) (.int 0)) (.cons (.cmp .Gt (.var 3) (.int 0)) .nil)))
 (.cons (.setAt (.var 4) (.bin .Mod (.bin .FloorDiv (.ix (.var 0) (.int 0)) (.int 3)) (.var 3)) (.var 2))
 .nil) .nil)
 (.frz 4 (.cons (.ret (.call "_law_within" (.cons (.var 4) (.cons (.ix (.var 0) (.int 1)) .nil))))
 .nil)))))
def cp_L_some_row : CP := ⟨N_L_some_row, defScope st_L_some_row, fun _ => true, csts, fns⟩
theorem ck_L_some_row : chkSs cp_L_some_row ir_L_some_row (defBody st_L_some_row) = true := by decide +kernel
theorem sc_L_some_row : FnScope N_L_some_row ps_L_some_row (defScope st_L_some_row) := ⟨rfl, rfl, rfl, by decide +kernel, rfl, by decide +kernel, by decide +kernel⟩
def d_L_some_row : DDef := ⟨"_law_some_row", st_L_some_row, N_L_some_row, ps_L_some_row, ir_L_some_row⟩
theorem bd_L_some_row : BindsD d_L_some_row := fun _ _ _ _ _ _ us hl => match us, hl with | [_, _, _], _ => rfl
/-! law other_part -/
abbrev st_L_other_part : Stmt := top 26
def N_L_other_part : List Str := ["_law_column", "_law_way", "_law_x", "_law_y"]
def ps_L_other_part : List Str := ["_law_column", "_law_way", "_law_x", "_law_y"]
def ir_L_other_part : ISs :=
 (.cons (.ife (.cmp .Eq (.bin .Mod (.var 2) (.int 7)) (.int 0))
 (.cons (.ret (.tup (.cons (.call "_law_odd" (.cons (.var 3) .nil)) (.cons (.var 1) .nil))))
 .nil) .nil)
 (.cons (.ife (.cmp .Eq (.bin .Mod (.var 2) (.int 7)) (.int 1))
 (.cons (.ret (.tup (.cons (.var 0) (.cons (.call "_law_odd" (.cons (.var 3) .nil)) .nil))))
 .nil) .nil)
 (.cons (.ife (.cmp .Eq (.bin .Mod (.var 2) (.int 7)) (.int 2))
 (.cons (.ret (.ix (.fz (.lst (.cons (.fz (.lst (.cons (.var 0) (.cons (.var 1) .nil)))) (.cons (.tup (.cons (.var 0) .nil)) (.cons (.tup (.cons (.var 0) (.cons (.var 1) (.cons (.var 1) .nil)))) (.cons (.tup (.cons (.var 1) (.cons (.var 0) .nil))) .nil)))))) (.bin .Mod (.var 3) (.int 4))))
 .nil) .nil)
 (.cons (.ife (.cmp .Eq (.bin .Mod (.var 2) (.int 7)) (.int 3))
 (.cons (.ret (.call "_law_odd" (.cons (.var 3) .nil)))
 .nil) .nil)
 (.cons (.ife (.cmp .Eq (.bin .Mod (.var 2) (.int 7)) (.int 4))
 (.cons (.ret (.tup (.cons (.var 0) (.cons (.ix (.fz (.lst (.cons (.str "Up") (.cons (.str "UP") (.cons (.str "down ") (.cons (.str " up") (.cons (.str "upp") (.cons (.str "dow") (.cons (.str "") (.cons (.str "up\n") (.cons (.str "DOWN") .nil))))))))))) (.bin .Mod (.var 3) (.int 9))) .nil))))
 .nil) .nil)
 (.cons (.ret (.tup (.cons (.bin .Sub (.bin .Mod (.var 3) (.int 7)) (.int 1)) (.cons (.var 1) .nil))))
 .nil))))))
def cp_L_other_part : CP := ⟨N_L_other_part, defScope st_L_other_part, fun _ => true, csts, fns⟩
theorem ck_L_other_part : chkSs cp_L_other_part ir_L_other_part (defBody st_L_other_part) = true := by decide +kernel
theorem sc_L_other_part : FnScope N_L_other_part ps_L_other_part (defScope st_L_other_part) := ⟨rfl, rfl, rfl, by decide +kernel, rfl, by decide +kernel, by decide +kernel⟩
def d_L_other_part : DDef := ⟨"_law_other_part", st_L_other_part, N_L_other_part, ps_L_other_part, ir_L_other_part⟩
theorem bd_L_other_part : BindsD d_L_other_part := fun _ _ _ _ _ _ us hl => match us, hl with | [_, _, _, _], _ => rfl
/-! law some_order -/
abbrev st_L_some_order : Stmt := top 27
def N_L_some_order : List Str := ["_law_xs", "_law_columns", "_law_parts", "_law_at", "_law_k", "_law_column"]
def ps_L_some_order : List Str := ["_law_xs"]
def ir_L_some_order : ISs :=
 (.cons (.asg (.nm 1) (.sl (.sl (.bin .Mult (.fz (.lst (.cons (.int 1) (.cons (.int 2) (.cons (.int 3) (.cons (.int 4) .nil)))))) (.int 3)) (.so (.bin .Mod (.ix (.var 0) (.int 3)) (.int 4))) .no) .no (.so (.bin .Mod (.ix (.var 0) (.int 2)) (.int 6)))))
 (.cons (.ife (.cmp .Eq (.bin .Mod (.bin .FloorDiv (.ix (.var 0) (.int 3)) (.int 4)) (.int 2)) (.int 1))
 (.cons (.asg (.nm 1) (.rev (.var 1)))
 .nil) .nil)
 (.cons (.setL true 2 (.lc (.tup (.cons (.var 5) (.cons (.ix (.fz (.lst (.cons (.str "up") (.cons (.str "down") .nil)))) (.bin .Mod (.ix (.var 0) (.bin .Add (.int 4) (.var 4))) (.int 2))) .nil))) (.tup [4, 5]) (.enum (.var 1)) .nil [("_law_k", 4), ("_law_column", 5)]))
 (.cons (.ife (.bo .And (.cons (.cmp .Gt (.bin .Mod (.ix (.var 0) (.int 0)) (.int 3)) (.int 0)) (.cons (.cmp .NotEq (.var 2) (.fz (.lst .nil))) .nil)))
 (.cons (.asg (.nm 3) (.bin .Mod (.bin .FloorDiv (.ix (.var 0) (.int 0)) (.int 3)) (.bf .len (.cons (.var 2) .nil))))
 (.cons (.setAt (.var 2) (.var 3) (.call "_law_other_part" (.cons (.ix (.ix (.var 2) (.var 3)) (.int 0)) (.cons (.ix (.ix (.var 2) (.var 3)) (.int 1)) (.cons (.ix (.var 0) (.int 9)) (.cons (.ix (.var 0) (.int 10)) .nil))))))
 .nil)) .nil)
 (.frz 2 (.cons (.ret (.call "_law_within" (.cons (.var 2) (.cons (.ix (.var 0) (.int 1)) .nil))))
 .nil))))))
def cp_L_some_order : CP := ⟨N_L_some_order, defScope st_L_some_order, fun _ => true, csts, fns⟩
theorem ck_L_some_order : chkSs cp_L_some_order ir_L_some_order (defBody st_L_some_order) = true := by decide +kernel
theorem sc_L_some_order : FnScope N_L_some_order ps_L_some_order (defScope st_L_some_order) := ⟨rfl, rfl, rfl, by decide +kernel, rfl, by decide +kernel, by decide +kernel⟩
def d_L_some_order : DDef := ⟨"_law_some_order", st_L_some_order, N_L_some_order, ps_L_some_order, ir_L_some_order⟩
theorem bd_L_some_order : BindsD d_L_some_order := fun _ _ _ _ _ _ us hl => match us, hl with | [_], _ => rfl
/-! law truth -/
abbrev st_L_truth : Stmt := top 28
def N_L_truth : List Str := ["_law_told", "_law_due"]
def ps_L_truth : List Str := ["_law_told", "_law_due"]
def ir_L_truth : ISs :=
 (.cons (.ret (.bo .And (.cons (.isi (.var 0) "bool") (.cons (.cmp .Eq (.var 0) (.var 1)) .nil))))
 .nil)
def cp_L_truth : CP := ⟨N_L_truth, defScope st_L_truth, fun _ => true, csts, fns⟩
theorem ck_L_truth : chkSs cp_L_truth ir_L_truth (defBody st_L_truth) = true := by decide +kernel
theorem sc_L_truth : FnScope N_L_truth ps_L_truth (defScope st_L_truth) := ⟨rfl, rfl, rfl, by decide +kernel, rfl, by decide +kernel, by decide +kernel⟩
def d_L_truth : DDef := ⟨"_law_truth", st_L_truth, N_L_truth, ps_L_truth, ir_L_truth⟩
theorem bd_L_truth : BindsD d_L_truth := fun _ _ _ _ _ _ us hl => match us, hl with | [_, _], _ => rfl
/-! law told_right -/
abbrev st_L_told_right : Stmt := top 29
def N_L_told_right : List Str := ["_law_thing"]
def ps_L_told_right : List Str := ["_law_thing"]
def ir_L_told_right : ISs :=
 (.cons (.ife (.bo .Or (.cons (.notV (.call "_law_truth" (.cons (.call "is_thing" (.cons (.var 0) .nil)) (.cons (.call "_law_is_thing" (.cons (.var 0) .nil)) .nil)))) (.cons (.notV (.call "_law_truth" (.cons (.call "is_row" (.cons (.var 0) .nil)) (.cons (.call "_law_is_row" (.cons (.var 0) .nil)) .nil)))) .nil)))
 (.cons (.ret (.bl false))
 .nil) .nil)
 (.cons (.ret (.call "_law_truth" (.cons (.call "is_order" (.cons (.var 0) .nil)) (.cons (.call "_law_is_order" (.cons (.var 0) .nil)) .nil))))
 .nil))
def cp_L_told_right : CP := ⟨N_L_told_right, defScope st_L_told_right, fun _ => true, csts, fns⟩
theorem ck_L_told_right : chkSs cp_L_told_right ir_L_told_right (defBody st_L_told_right) = true := by decide +kernel
theorem sc_L_told_right : FnScope N_L_told_right ps_L_told_right (defScope st_L_told_right) := ⟨rfl, rfl, rfl, by decide +kernel, rfl, by decide +kernel, by decide +kernel⟩
def d_L_told_right : DDef := ⟨"_law_told_right", st_L_told_right, N_L_told_right, ps_L_told_right, ir_L_told_right⟩
theorem bd_L_told_right : BindsD d_L_told_right := fun _ _ _ _ _ _ us hl => match us, hl with | [_], _ => rfl
/-! law -/
abbrev st_law : Stmt := top 30
def N_law : List Str := ["_law_script", "_law_k", "_law_xs", "_law_odd_here", "_law_good", "_law_row", "_law_order", "_law_thing", "_law_j"]
def ps_law : List Str := ["_law_script"]
def ir_law : ISs :=
 (.cons (.for (.nm 1) (.rng1 (.bf .max (.cons (.int 2) (.cons (.bf .min (.cons (.bf .len (.cons (.var 0) .nil)) (.cons (.int 8) .nil))) .nil))))
 (.cons (.asg (.nm 2) (.call "_law_draws" (.cons (.call "_law_cell" (.cons (.var 0) (.cons (.var 1) .nil))) (.cons (.int 60) .nil))))
 (.cons (.asg (.nm 3) (.call "_law_some_thing" (.cons (.sl (.var 2) .no (.so (.int 15))) .nil)))
 (.cons (.setL false 4 (.lc (.call "_law_good_thing" (.cons (.sl (.var 2) (.so (.bin .Add (.int 15) (.bin .Mult (.int 9) (.var 8)))) .no) .nil)) (.nm 8) (.rng1 (.int 3)) .nil [("_law_j", 8)]))
 (.cons (.asg (.nm 5) (.call "_law_some_row" (.cons (.sl (.var 2) (.so (.int 42)) .no) (.cons (.var 4) (.cons (.var 3) .nil)))))
 (.cons (.asg (.nm 6) (.call "_law_some_order" (.cons (.sl (.var 2) (.so (.int 45)) .no) .nil)))
 (.cons (.for (.nm 7) (.val (.fz (.lst (.cons (.var 3) (.cons (.ix (.var 4) (.int 0)) (.cons (.var 5) (.cons (.var 6) .nil)))))))
 (.cons (.ife (.notV (.call "_law_told_right" (.cons (.var 7) .nil)))
 (.cons (.ret (.bl false))
 .nil) .nil)
 .nil))
 .nil)))))))
 (.cons (.ret (.bl true))
 .nil))
def cp_law : CP := ⟨N_law, defScope st_law, fun _ => true, csts, fns⟩
theorem ck_law : chkSs cp_law ir_law (defBody st_law) = true := by decide +kernel
theorem sc_law : FnScope N_law ps_law (defScope st_law) := ⟨rfl, rfl, rfl, by decide +kernel, rfl, by decide +kernel, by decide +kernel⟩
def d_law : DDef := ⟨"law", st_law, N_law, ps_law, ir_law⟩
theorem bd_law : BindsD d_law := fun _ _ _ _ _ _ us hl => match us, hl with | [_], _ => rfl
def ds0 : List DDef := [d_is_whole, d_is_key, d_is_thing, d_is_row, d_is_part, d_is_order, d_L_cell, d_L_draws, d_L_word, d_L_whole, d_L_is_key, d_L_is_thing, d_L_is_row, d_L_is_order, d_L_odd, d_L_sign, d_L_key, d_L_other_key, d_L_within, d_L_good_thing]
def ds1 : List DDef := [d_L_some_thing, d_L_some_row, d_L_other_part, d_L_some_order, d_L_truth, d_L_told_right, d_law]
def ds : List DDef := ds0 ++ ds1
def loose0 : List Str := ["MOST_THINGS", "LETTERS", "is_whole", "is_key", "is_thing", "is_row", "is_part", "is_order", "_law_cell", "_law_draws", "_law_word", "_law_whole", "_law_is_key", "_law_is_thing", "_law_is_row", "_law_is_order", "_law_odd", "_law_sign", "_law_key", "_law_other_key"]
def loose1 : List Str := ["_law_within", "_law_good_thing", "_law_some_thing", "_law_some_row", "_law_other_part", "_law_some_order", "_law_truth", "_law_told_right"]
def loose : List Str := loose0 ++ loose1
abbrev EnvT (T : Tx) : Prop := Env csts fns ds T
theorem call_is_whole {T : Tx} (E : EnvT T) {k : Nat} {xs : List PV} {M : Mem} {Q : ZK} {X : ZX} (hl : xs.length = d_is_whole.ps.length) (q : zsp N_is_whole (zSs T k ir_is_whole) xs M Q X) : ZCall T (k + 1) "is_whole" xs M Q X := Env.call (d := d_is_whole) E (List.mem_of_getElem? (i := 0) rfl) sc_is_whole bd_is_whole ck_is_whole hl q
theorem call_is_key {T : Tx} (E : EnvT T) {k : Nat} {xs : List PV} {M : Mem} {Q : ZK} {X : ZX} (hl : xs.length = d_is_key.ps.length) (q : zsp N_is_key (zSs T k ir_is_key) xs M Q X) : ZCall T (k + 1) "is_key" xs M Q X := Env.call (d := d_is_key) E (List.mem_of_getElem? (i := 1) rfl) sc_is_key bd_is_key ck_is_key hl q
theorem call_is_thing {T : Tx} (E : EnvT T) {k : Nat} {xs : List PV} {M : Mem} {Q : ZK} {X : ZX} (hl : xs.length = d_is_thing.ps.length) (q : zsp N_is_thing (zSs T k ir_is_thing) xs M Q X) : ZCall T (k + 1) "is_thing" xs M Q X := Env.call (d := d_is_thing) E (List.mem_of_getElem? (i := 2) rfl) sc_is_thing bd_is_thing ck_is_thing hl q
theorem call_is_row {T : Tx} (E : EnvT T) {k : Nat} {xs : List PV} {M : Mem} {Q : ZK} {X : ZX} (hl : xs.length = d_is_row.ps.length) (q : zsp N_is_row (zSs T k ir_is_row) xs M Q X) : ZCall T (k + 1) "is_row" xs M Q X := Env.call (d := d_is_row) E (List.mem_of_getElem? (i := 3) rfl) sc_is_row bd_is_row ck_is_row hl q
theorem call_is_part {T : Tx} (E : EnvT T) {k : Nat} {xs : List PV} {M : Mem} {Q : ZK} {X : ZX} (hl : xs.length = d_is_part.ps.length) (q : zsp N_is_part (zSs T k ir_is_part) xs M Q X) : ZCall T (k + 1) "is_part" xs M Q X := Env.call (d := d_is_part) E (List.mem_of_getElem? (i := 4) rfl) sc_is_part bd_is_part ck_is_part hl q
theorem call_is_order {T : Tx} (E : EnvT T) {k : Nat} {xs : List PV} {M : Mem} {Q : ZK} {X : ZX} (hl : xs.length = d_is_order.ps.length) (q : zsp N_is_order (zSs T k ir_is_order) xs M Q X) : ZCall T (k + 1) "is_order" xs M Q X := Env.call (d := d_is_order) E (List.mem_of_getElem? (i := 5) rfl) sc_is_order bd_is_order ck_is_order hl q
theorem call_L_cell {T : Tx} (E : EnvT T) {k : Nat} {xs : List PV} {M : Mem} {Q : ZK} {X : ZX} (hl : xs.length = d_L_cell.ps.length) (q : zsp N_L_cell (zSs T k ir_L_cell) xs M Q X) : ZCall T (k + 1) "_law_cell" xs M Q X := Env.call (d := d_L_cell) E (List.mem_of_getElem? (i := 6) rfl) sc_L_cell bd_L_cell ck_L_cell hl q
theorem call_L_draws {T : Tx} (E : EnvT T) {k : Nat} {xs : List PV} {M : Mem} {Q : ZK} {X : ZX} (hl : xs.length = d_L_draws.ps.length) (q : zsp N_L_draws (zSs T k ir_L_draws) xs M Q X) : ZCall T (k + 1) "_law_draws" xs M Q X := Env.call (d := d_L_draws) E (List.mem_of_getElem? (i := 7) rfl) sc_L_draws bd_L_draws ck_L_draws hl q
theorem call_L_word {T : Tx} (E : EnvT T) {k : Nat} {xs : List PV} {M : Mem} {Q : ZK} {X : ZX} (hl : xs.length = d_L_word.ps.length) (q : zsp N_L_word (zSs T k ir_L_word) xs M Q X) : ZCall T (k + 1) "_law_word" xs M Q X := Env.call (d := d_L_word) E (List.mem_of_getElem? (i := 8) rfl) sc_L_word bd_L_word ck_L_word hl q
theorem call_L_whole {T : Tx} (E : EnvT T) {k : Nat} {xs : List PV} {M : Mem} {Q : ZK} {X : ZX} (hl : xs.length = d_L_whole.ps.length) (q : zsp N_L_whole (zSs T k ir_L_whole) xs M Q X) : ZCall T (k + 1) "_law_whole" xs M Q X := Env.call (d := d_L_whole) E (List.mem_of_getElem? (i := 9) rfl) sc_L_whole bd_L_whole ck_L_whole hl q
theorem call_L_is_key {T : Tx} (E : EnvT T) {k : Nat} {xs : List PV} {M : Mem} {Q : ZK} {X : ZX} (hl : xs.length = d_L_is_key.ps.length) (q : zsp N_L_is_key (zSs T k ir_L_is_key) xs M Q X) : ZCall T (k + 1) "_law_is_key" xs M Q X := Env.call (d := d_L_is_key) E (List.mem_of_getElem? (i := 10) rfl) sc_L_is_key bd_L_is_key ck_L_is_key hl q
theorem call_L_is_thing {T : Tx} (E : EnvT T) {k : Nat} {xs : List PV} {M : Mem} {Q : ZK} {X : ZX} (hl : xs.length = d_L_is_thing.ps.length) (q : zsp N_L_is_thing (zSs T k ir_L_is_thing) xs M Q X) : ZCall T (k + 1) "_law_is_thing" xs M Q X := Env.call (d := d_L_is_thing) E (List.mem_of_getElem? (i := 11) rfl) sc_L_is_thing bd_L_is_thing ck_L_is_thing hl q
theorem call_L_is_row {T : Tx} (E : EnvT T) {k : Nat} {xs : List PV} {M : Mem} {Q : ZK} {X : ZX} (hl : xs.length = d_L_is_row.ps.length) (q : zsp N_L_is_row (zSs T k ir_L_is_row) xs M Q X) : ZCall T (k + 1) "_law_is_row" xs M Q X := Env.call (d := d_L_is_row) E (List.mem_of_getElem? (i := 12) rfl) sc_L_is_row bd_L_is_row ck_L_is_row hl q
theorem call_L_is_order {T : Tx} (E : EnvT T) {k : Nat} {xs : List PV} {M : Mem} {Q : ZK} {X : ZX} (hl : xs.length = d_L_is_order.ps.length) (q : zsp N_L_is_order (zSs T k ir_L_is_order) xs M Q X) : ZCall T (k + 1) "_law_is_order" xs M Q X := Env.call (d := d_L_is_order) E (List.mem_of_getElem? (i := 13) rfl) sc_L_is_order bd_L_is_order ck_L_is_order hl q
theorem call_L_odd {T : Tx} (E : EnvT T) {k : Nat} {xs : List PV} {M : Mem} {Q : ZK} {X : ZX} (hl : xs.length = d_L_odd.ps.length) (q : zsp N_L_odd (zSs T k ir_L_odd) xs M Q X) : ZCall T (k + 1) "_law_odd" xs M Q X := Env.call (d := d_L_odd) E (List.mem_of_getElem? (i := 14) rfl) sc_L_odd bd_L_odd ck_L_odd hl q
theorem call_L_sign {T : Tx} (E : EnvT T) {k : Nat} {xs : List PV} {M : Mem} {Q : ZK} {X : ZX} (hl : xs.length = d_L_sign.ps.length) (q : zsp N_L_sign (zSs T k ir_L_sign) xs M Q X) : ZCall T (k + 1) "_law_sign" xs M Q X := Env.call (d := d_L_sign) E (List.mem_of_getElem? (i := 15) rfl) sc_L_sign bd_L_sign ck_L_sign hl q
theorem call_L_key {T : Tx} (E : EnvT T) {k : Nat} {xs : List PV} {M : Mem} {Q : ZK} {X : ZX} (hl : xs.length = d_L_key.ps.length) (q : zsp N_L_key (zSs T k ir_L_key) xs M Q X) : ZCall T (k + 1) "_law_key" xs M Q X := Env.call (d := d_L_key) E (List.mem_of_getElem? (i := 16) rfl) sc_L_key bd_L_key ck_L_key hl q
theorem call_L_other_key {T : Tx} (E : EnvT T) {k : Nat} {xs : List PV} {M : Mem} {Q : ZK} {X : ZX} (hl : xs.length = d_L_other_key.ps.length) (q : zsp N_L_other_key (zSs T k ir_L_other_key) xs M Q X) : ZCall T (k + 1) "_law_other_key" xs M Q X := Env.call (d := d_L_other_key) E (List.mem_of_getElem? (i := 17) rfl) sc_L_other_key bd_L_other_key ck_L_other_key hl q
theorem call_L_within {T : Tx} (E : EnvT T) {k : Nat} {xs : List PV} {M : Mem} {Q : ZK} {X : ZX} (hl : xs.length = d_L_within.ps.length) (q : zsp N_L_within (zSs T k ir_L_within) xs M Q X) : ZCall T (k + 1) "_law_within" xs M Q X := Env.call (d := d_L_within) E (List.mem_of_getElem? (i := 18) rfl) sc_L_within bd_L_within ck_L_within hl q
theorem call_L_good_thing {T : Tx} (E : EnvT T) {k : Nat} {xs : List PV} {M : Mem} {Q : ZK} {X : ZX} (hl : xs.length = d_L_good_thing.ps.length) (q : zsp N_L_good_thing (zSs T k ir_L_good_thing) xs M Q X) : ZCall T (k + 1) "_law_good_thing" xs M Q X := Env.call (d := d_L_good_thing) E (List.mem_of_getElem? (i := 19) rfl) sc_L_good_thing bd_L_good_thing ck_L_good_thing hl q
theorem call_L_some_thing {T : Tx} (E : EnvT T) {k : Nat} {xs : List PV} {M : Mem} {Q : ZK} {X : ZX} (hl : xs.length = d_L_some_thing.ps.length) (q : zsp N_L_some_thing (zSs T k ir_L_some_thing) xs M Q X) : ZCall T (k + 1) "_law_some_thing" xs M Q X := Env.call (d := d_L_some_thing) E (List.mem_of_getElem? (i := 20) rfl) sc_L_some_thing bd_L_some_thing ck_L_some_thing hl q
theorem call_L_some_row {T : Tx} (E : EnvT T) {k : Nat} {xs : List PV} {M : Mem} {Q : ZK} {X : ZX} (hl : xs.length = d_L_some_row.ps.length) (q : zsp N_L_some_row (zSs T k ir_L_some_row) xs M Q X) : ZCall T (k + 1) "_law_some_row" xs M Q X := Env.call (d := d_L_some_row) E (List.mem_of_getElem? (i := 21) rfl) sc_L_some_row bd_L_some_row ck_L_some_row hl q
theorem call_L_other_part {T : Tx} (E : EnvT T) {k : Nat} {xs : List PV} {M : Mem} {Q : ZK} {X : ZX} (hl : xs.length = d_L_other_part.ps.length) (q : zsp N_L_other_part (zSs T k ir_L_other_part) xs M Q X) : ZCall T (k + 1) "_law_other_part" xs M Q X := Env.call (d := d_L_other_part) E (List.mem_of_getElem? (i := 22) rfl) sc_L_other_part bd_L_other_part ck_L_other_part hl q
theorem call_L_some_order {T : Tx} (E : EnvT T) {k : Nat} {xs : List PV} {M : Mem} {Q : ZK} {X : ZX} (hl : xs.length = d_L_some_order.ps.length) (q : zsp N_L_some_order (zSs T k ir_L_some_order) xs M Q X) : ZCall T (k + 1) "_law_some_order" xs M Q X := Env.call (d := d_L_some_order) E (List.mem_of_getElem? (i := 23) rfl) sc_L_some_order bd_L_some_order ck_L_some_order hl q
theorem call_L_truth {T : Tx} (E : EnvT T) {k : Nat} {xs : List PV} {M : Mem} {Q : ZK} {X : ZX} (hl : xs.length = d_L_truth.ps.length) (q : zsp N_L_truth (zSs T k ir_L_truth) xs M Q X) : ZCall T (k + 1) "_law_truth" xs M Q X := Env.call (d := d_L_truth) E (List.mem_of_getElem? (i := 24) rfl) sc_L_truth bd_L_truth ck_L_truth hl q
theorem call_L_told_right {T : Tx} (E : EnvT T) {k : Nat} {xs : List PV} {M : Mem} {Q : ZK} {X : ZX} (hl : xs.length = d_L_told_right.ps.length) (q : zsp N_L_told_right (zSs T k ir_L_told_right) xs M Q X) : ZCall T (k + 1) "_law_told_right" xs M Q X := Env.call (d := d_L_told_right) E (List.mem_of_getElem? (i := 25) rfl) sc_L_told_right bd_L_told_right ck_L_told_right hl q
theorem call_law {T : Tx} (E : EnvT T) {k : Nat} {xs : List PV} {M : Mem} {Q : ZK} {X : ZX} (hl : xs.length = d_law.ps.length) (q : zsp N_law (zSs T k ir_law) xs M Q X) : ZCall T (k + 1) "law" xs M Q X := Env.call (d := d_law) E (List.mem_of_getElem? (i := 26) rfl) sc_law bd_law ck_law hl q
def lawAt : Nat := 30
def lawIx : Nat := 26

end Lk01
end
section
namespace Lk01
open PySem PySem.Spec PyProof.Rows L2 Zz
def isWhole : PV → Bool
  | .int _ => true
  | _ => false
mutual
def pl : PV → Bool
  | .tup xs => pls xs
  | .lst xs => pls xs
  | .ref _ => false
  | .rol _ => false
  | .ty _ => false
  | _ => true
def pls : List PV → Bool
  | [] => true
  | x :: xs => pl x && pls xs
end
def letters : Str := "abcdefghijklmnopqrstuvwxyz"
def isKey : PV → Bool
  | .int n => decide (-1000000000 < n) && decide (n < 1000000000)
  | .str s => decide (1 ≤ s.length) && decide (s.length ≤ 8) && s.cps.toList.all fun c => decide (c ∈ letters.cps.toList)
  | _ => false
theorem pls_mem : ∀ {xs : List PV}, pls xs = true → ∀ x ∈ xs, pl x = true
  | [], _, _, h => nomatch h
  | y :: ys, h, x, hx => by
    rw [pls, Bool.and_eq_true] at h
    cases hx with
    | head => exact h.1
    | tail _ hx => exact pls_mem h.2 x hx
def isThing : PV → Bool
  | .tup ks => decide (1 ≤ ks.length) && decide (ks.length ≤ 4) && ks.all isKey
  | _ => false
def isRow : PV → Bool
  | .tup ks => decide (ks.length ≤ 60) && ks.all isThing
  | _ => false
section
variable {T : Tx} (E : EnvT T) {k : Nat} {x : PV} {M : Mem} {Q : ZK} {X : ZX}
include E
theorem sp_is_whole (h : pl x = true) (q : Q (.bl (isWhole x)) M) : ZCall T (k + 1) "is_whole" [x] M Q X := by
  apply call_is_whole E rfl
  cases x <;> simp only [ir_is_whole, N_is_whole, zsp, zSs, zS, zE, zEs, zT, zBoVs, zBoTs, zA, zIfs, zI, zO, zG, zGs, zsCons, zsNil, zsIf, zsRet, zsRetN, zsExpr, zsAsg, zsPar, zsFor, zsSet, zsSetL, zsPass, zsBreak, zsCont, zsFrz, zEnds, zstart, z1, z2, zVar, zGet, zCst, zChain_eq, onB_bl, tOf, zNotT, zBoT, zBoV, zIf, zNil, zCons, zTup, zPart, zNoPart, zSl, zSlL, zCB, zCBL, zBF, zLM, LM.ty, IC.pv, zAbs, zList, zIsi, zVal, zRng1, zRng2, zEnum, Zz.gNm, Zz.gNil, Zz.gCons, Zz.gTup, zCall, zMt, zAppend, zExtend, zInsert, zPop, zReverse, zRev, zDct0, zDctK, zDctT, zYes, zLc, zwipe, zCmp, zEq, zIs, isNonP, List.map_cons, List.map_nil, List.cons_append, List.nil_append, List.replicate_succ, List.replicate_zero, List.length_cons, List.length_nil, List.set_cons_zero, List.set_cons_succ, List.getElem?_cons_zero, List.getElem?_cons_succ, Option.join_some, Nat.reduceAdd, Nat.reduceSub, Nat.zero_add, isiB, Bool.not_eq_true', decide_eq_false_iff_not, decide_eq_true_eq,  tyP_non, isDct_non, rs_non, tyP_bl, isDct_bl, rs_bl, tyP_int, isDct_int, rs_int, tyP_str, isDct_str, rs_str, tyP_tup, isDct_tup, rs_tup, tyP_lst, isDct_lst, rs_lst, tyP_rol, isDct_rol, rs_rol, tyP_dct, isDct_dct, rs_dct, asL_lst, asL_rol, asS_lst, asS_rol, asS_tup, asW_lst, asT_tup, asL_mset, asS_mset, asW_mset, refL_mset, isDct_mset, tyP_mset, rs_mset, Option.some.injEq, exists_eq_left', true_and, and_true, Bool.not_true, Bool.not_false, Bool.false_eq_true, if_true, if_false, ite_true, ite_false, String.reduceBEq, Bool.or_false, Bool.or_true, Bool.false_or, Bool.true_or, Bool.and_false, Bool.and_true, Bool.true_and, Bool.false_and, reduceIte, PV.int.injEq, exists_const, PV.tup.injEq, PV.lst.injEq, PV.ref.injEq, PV.ty.injEq, zIn, List.all_cons, List.all_nil, List.any_cons, List.any_nil, atP_0, atP_1, atP_2, flat_ints, Zz.any_ints, Nat.zero_le, IC.v, Nat.reduceLeDiff, forall_const, mset_mset, not_true_eq_false, not_false_eq_true, cpow9, pow9, cpow18, pow18, cpow30, pow30, ex2, Bool.true_eq_false, Int.cast_ofNat_Int, Int.ofNat_eq_natCast, flatP_non, flatP_bl, flatP_int, flatP_str, flatP_tup, flatP_lst, flatP_dct, eqF_ss, eqF_ii, eqF_bb, zB_Add_i, zB_Sub_i, zB_Mult_i, zB_FloorDiv_i, zB_Mod_i, zB_Pow_i, zB_BitAnd_i, zB_BitOr_i, zB_Add_s, zB_Add_t, zB_Add_l, zB_Mul_l, zIx_tup, zIx_lst, zIx_rol, zIx_str, zIx_mset, zLen_tup, zLen_lst, zLen_rol, zLen_str, zLen_mset, zInt_i, zInt_b, zTuple_t, zTuple_l, zTuple_m, zMax_ii, zMin_ii, zNeg_i, zNotV_b, zAllAny_l, wL_mset, szl0, szl1, szl2, szl3, szl4, szl5, szl6, szl7, szl8, szl9, szl10, szl11, szl12, szl13, szl14, szl15, szl16, szl17, szl18, szl19, szl20, szl21, szl22, szl23, szl24, szl25, szl26, szl27, szl28, szl29, szl30, szl31, szl32, szl33, szl34, szl35, szl36, szl37, szl38, szl39, szl40, szl41, szl42, szl43, szl44, szl45, szl46, szl47, szl48, szl49, szl50, szl51, szl52, szl53, szl54, szl55, szl56, szl57, szl58, szl59, szl60, szl61, szl62, szl63, szl64, szl65, szl66, szl67, szl68, szl69, frzV_ref, zfrz, Option.map_some, Option.map_none, frzV_non, frzV_bl, frzV_int, frzV_str, frzV_tup, frzV_lst, frzV_rol, frzV_dct] <;> first | exact ret_same q | (simp [pl] at h; done)
theorem sp_L_whole (h : pl x = true) (q : Q (.bl (isWhole x)) M) : ZCall T (k + 1) "_law_whole" [x] M Q X := by
  apply call_L_whole E rfl
  cases x <;> simp only [ir_L_whole, N_L_whole, zsp, zSs, zS, zE, zEs, zT, zBoVs, zBoTs, zA, zIfs, zI, zO, zG, zGs, zsCons, zsNil, zsIf, zsRet, zsRetN, zsExpr, zsAsg, zsPar, zsFor, zsSet, zsSetL, zsPass, zsBreak, zsCont, zsFrz, zEnds, zstart, z1, z2, zVar, zGet, zCst, zChain_eq, onB_bl, tOf, zNotT, zBoT, zBoV, zIf, zNil, zCons, zTup, zPart, zNoPart, zSl, zSlL, zCB, zCBL, zBF, zLM, LM.ty, IC.pv, zAbs, zList, zIsi, zVal, zRng1, zRng2, zEnum, Zz.gNm, Zz.gNil, Zz.gCons, Zz.gTup, zCall, zMt, zAppend, zExtend, zInsert, zPop, zReverse, zRev, zDct0, zDctK, zDctT, zYes, zLc, zwipe, zCmp, zEq, zIs, isNonP, List.map_cons, List.map_nil, List.cons_append, List.nil_append, List.replicate_succ, List.replicate_zero, List.length_cons, List.length_nil, List.set_cons_zero, List.set_cons_succ, List.getElem?_cons_zero, List.getElem?_cons_succ, Option.join_some, Nat.reduceAdd, Nat.reduceSub, Nat.zero_add, isiB, Bool.not_eq_true', decide_eq_false_iff_not, decide_eq_true_eq,  tyP_non, isDct_non, rs_non, tyP_bl, isDct_bl, rs_bl, tyP_int, isDct_int, rs_int, tyP_str, isDct_str, rs_str, tyP_tup, isDct_tup, rs_tup, tyP_lst, isDct_lst, rs_lst, tyP_rol, isDct_rol, rs_rol, tyP_dct, isDct_dct, rs_dct, asL_lst, asL_rol, asS_lst, asS_rol, asS_tup, asW_lst, asT_tup, asL_mset, asS_mset, asW_mset, refL_mset, isDct_mset, tyP_mset, rs_mset, Option.some.injEq, exists_eq_left', true_and, and_true, Bool.not_true, Bool.not_false, Bool.false_eq_true, if_true, if_false, ite_true, ite_false, String.reduceBEq, Bool.or_false, Bool.or_true, Bool.false_or, Bool.true_or, Bool.and_false, Bool.and_true, Bool.true_and, Bool.false_and, reduceIte, PV.int.injEq, exists_const, PV.tup.injEq, PV.lst.injEq, PV.ref.injEq, PV.ty.injEq, zIn, List.all_cons, List.all_nil, List.any_cons, List.any_nil, atP_0, atP_1, atP_2, flat_ints, Zz.any_ints, Nat.zero_le, IC.v, Nat.reduceLeDiff, forall_const, mset_mset, not_true_eq_false, not_false_eq_true, cpow9, pow9, cpow18, pow18, cpow30, pow30, ex2, Bool.true_eq_false, Int.cast_ofNat_Int, Int.ofNat_eq_natCast, flatP_non, flatP_bl, flatP_int, flatP_str, flatP_tup, flatP_lst, flatP_dct, eqF_ss, eqF_ii, eqF_bb, zB_Add_i, zB_Sub_i, zB_Mult_i, zB_FloorDiv_i, zB_Mod_i, zB_Pow_i, zB_BitAnd_i, zB_BitOr_i, zB_Add_s, zB_Add_t, zB_Add_l, zB_Mul_l, zIx_tup, zIx_lst, zIx_rol, zIx_str, zIx_mset, zLen_tup, zLen_lst, zLen_rol, zLen_str, zLen_mset, zInt_i, zInt_b, zTuple_t, zTuple_l, zTuple_m, zMax_ii, zMin_ii, zNeg_i, zNotV_b, zAllAny_l, wL_mset, szl0, szl1, szl2, szl3, szl4, szl5, szl6, szl7, szl8, szl9, szl10, szl11, szl12, szl13, szl14, szl15, szl16, szl17, szl18, szl19, szl20, szl21, szl22, szl23, szl24, szl25, szl26, szl27, szl28, szl29, szl30, szl31, szl32, szl33, szl34, szl35, szl36, szl37, szl38, szl39, szl40, szl41, szl42, szl43, szl44, szl45, szl46, szl47, szl48, szl49, szl50, szl51, szl52, szl53, szl54, szl55, szl56, szl57, szl58, szl59, szl60, szl61, szl62, szl63, szl64, szl65, szl66, szl67, szl68, szl69, frzV_ref, zfrz, Option.map_some, Option.map_none, frzV_non, frzV_bl, frzV_int, frzV_str, frzV_tup, frzV_lst, frzV_rol, frzV_dct] <;> first | exact ret_same q | (simp [pl] at h; done)
theorem sp_is_key (h : pl x = true) (q : Q (.bl (isKey x)) M) : ZCall T (k + 2) "is_key" [x] M Q X := by
  apply call_is_key E rfl
  simp only [ir_is_key, N_is_key, zsp, zSs, zS, zE, zEs, zT, zBoVs, zBoTs, zA, zIfs, zI, zO, zG, zGs, zsCons, zsNil, zsIf, zsRet, zsRetN, zsExpr, zsAsg, zsPar, zsFor, zsSet, zsSetL, zsPass, zsBreak, zsCont, zsFrz, zEnds, zstart, z1, z2, zVar, zGet, zCst, zChain_eq, onB_bl, tOf, zNotT, zBoT, zBoV, zIf, zNil, zCons, zTup, zPart, zNoPart, zSl, zSlL, zCB, zCBL, zBF, zLM, LM.ty, IC.pv, zAbs, zList, zIsi, zVal, zRng1, zRng2, zEnum, Zz.gNm, Zz.gNil, Zz.gCons, Zz.gTup, zCall, zMt, zAppend, zExtend, zInsert, zPop, zReverse, zRev, zDct0, zDctK, zDctT, zYes, zLc, zwipe, zCmp, zEq, zIs, isNonP, List.map_cons, List.map_nil, List.cons_append, List.nil_append, List.replicate_succ, List.replicate_zero, List.length_cons, List.length_nil, List.set_cons_zero, List.set_cons_succ, List.getElem?_cons_zero, List.getElem?_cons_succ, Option.join_some, Nat.reduceAdd, Nat.reduceSub, Nat.zero_add, isiB, Bool.not_eq_true', decide_eq_false_iff_not, decide_eq_true_eq,  tyP_non, isDct_non, rs_non, tyP_bl, isDct_bl, rs_bl, tyP_int, isDct_int, rs_int, tyP_str, isDct_str, rs_str, tyP_tup, isDct_tup, rs_tup, tyP_lst, isDct_lst, rs_lst, tyP_rol, isDct_rol, rs_rol, tyP_dct, isDct_dct, rs_dct, asL_lst, asL_rol, asS_lst, asS_rol, asS_tup, asW_lst, asT_tup, asL_mset, asS_mset, asW_mset, refL_mset, isDct_mset, tyP_mset, rs_mset, Option.some.injEq, exists_eq_left', true_and, and_true, Bool.not_true, Bool.not_false, Bool.false_eq_true, if_true, if_false, ite_true, ite_false, String.reduceBEq, Bool.or_false, Bool.or_true, Bool.false_or, Bool.true_or, Bool.and_false, Bool.and_true, Bool.true_and, Bool.false_and, reduceIte, PV.int.injEq, exists_const, PV.tup.injEq, PV.lst.injEq, PV.ref.injEq, PV.ty.injEq, zIn, List.all_cons, List.all_nil, List.any_cons, List.any_nil, atP_0, atP_1, atP_2, flat_ints, Zz.any_ints, Nat.zero_le, IC.v, Nat.reduceLeDiff, forall_const, mset_mset, not_true_eq_false, not_false_eq_true, cpow9, pow9, cpow18, pow18, cpow30, pow30, ex2, Bool.true_eq_false, Int.cast_ofNat_Int, Int.ofNat_eq_natCast, flatP_non, flatP_bl, flatP_int, flatP_str, flatP_tup, flatP_lst, flatP_dct, eqF_ss, eqF_ii, eqF_bb, zB_Add_i, zB_Sub_i, zB_Mult_i, zB_FloorDiv_i, zB_Mod_i, zB_Pow_i, zB_BitAnd_i, zB_BitOr_i, zB_Add_s, zB_Add_t, zB_Add_l, zB_Mul_l, zIx_tup, zIx_lst, zIx_rol, zIx_str, zIx_mset, zLen_tup, zLen_lst, zLen_rol, zLen_str, zLen_mset, zInt_i, zInt_b, zTuple_t, zTuple_l, zTuple_m, zMax_ii, zMin_ii, zNeg_i, zNotV_b, zAllAny_l, wL_mset, szl0, szl1, szl2, szl3, szl4, szl5, szl6, szl7, szl8, szl9, szl10, szl11, szl12, szl13, szl14, szl15, szl16, szl17, szl18, szl19, szl20, szl21, szl22, szl23, szl24, szl25, szl26, szl27, szl28, szl29, szl30, szl31, szl32, szl33, szl34, szl35, szl36, szl37, szl38, szl39, szl40, szl41, szl42, szl43, szl44, szl45, szl46, szl47, szl48, szl49, szl50, szl51, szl52, szl53, szl54, szl55, szl56, szl57, szl58, szl59, szl60, szl61, szl62, szl63, szl64, szl65, szl66, szl67, szl68, szl69, frzV_ref, zfrz, Option.map_some, Option.map_none, frzV_non, frzV_bl, frzV_int, frzV_str, frzV_tup, frzV_lst, frzV_rol, frzV_dct]
  refine sp_is_whole E h ?_
  cases x with
  | int n =>
    simp only [isWhole, zsp, zSs, zS, zE, zEs, zT, zBoVs, zBoTs, zA, zIfs, zI, zO, zG, zGs, zsCons, zsNil, zsIf, zsRet, zsRetN, zsExpr, zsAsg, zsPar, zsFor, zsSet, zsSetL, zsPass, zsBreak, zsCont, zsFrz, zEnds, zstart, z1, z2, zVar, zGet, zCst, zChain_eq, onB_bl, tOf, zNotT, zBoT, zBoV, zIf, zNil, zCons, zTup, zPart, zNoPart, zSl, zSlL, zCB, zCBL, zBF, zLM, LM.ty, IC.pv, zAbs, zList, zIsi, zVal, zRng1, zRng2, zEnum, Zz.gNm, Zz.gNil, Zz.gCons, Zz.gTup, zCall, zMt, zAppend, zExtend, zInsert, zPop, zReverse, zRev, zDct0, zDctK, zDctT, zYes, zLc, zwipe, zCmp, zEq, zIs, isNonP, List.map_cons, List.map_nil, List.cons_append, List.nil_append, List.replicate_succ, List.replicate_zero, List.length_cons, List.length_nil, List.set_cons_zero, List.set_cons_succ, List.getElem?_cons_zero, List.getElem?_cons_succ, Option.join_some, Nat.reduceAdd, Nat.reduceSub, Nat.zero_add, isiB, Bool.not_eq_true', decide_eq_false_iff_not, decide_eq_true_eq,  tyP_non, isDct_non, rs_non, tyP_bl, isDct_bl, rs_bl, tyP_int, isDct_int, rs_int, tyP_str, isDct_str, rs_str, tyP_tup, isDct_tup, rs_tup, tyP_lst, isDct_lst, rs_lst, tyP_rol, isDct_rol, rs_rol, tyP_dct, isDct_dct, rs_dct, asL_lst, asL_rol, asS_lst, asS_rol, asS_tup, asW_lst, asT_tup, asL_mset, asS_mset, asW_mset, refL_mset, isDct_mset, tyP_mset, rs_mset, Option.some.injEq, exists_eq_left', true_and, and_true, Bool.not_true, Bool.not_false, Bool.false_eq_true, if_true, if_false, ite_true, ite_false, String.reduceBEq, Bool.or_false, Bool.or_true, Bool.false_or, Bool.true_or, Bool.and_false, Bool.and_true, Bool.true_and, Bool.false_and, reduceIte, PV.int.injEq, exists_const, PV.tup.injEq, PV.lst.injEq, PV.ref.injEq, PV.ty.injEq, zIn, List.all_cons, List.all_nil, List.any_cons, List.any_nil, atP_0, atP_1, atP_2, flat_ints, Zz.any_ints, Nat.zero_le, IC.v, Nat.reduceLeDiff, forall_const, mset_mset, not_true_eq_false, not_false_eq_true, cpow9, pow9, cpow18, pow18, cpow30, pow30, ex2, Bool.true_eq_false, Int.cast_ofNat_Int, Int.ofNat_eq_natCast, flatP_non, flatP_bl, flatP_int, flatP_str, flatP_tup, flatP_lst, flatP_dct, eqF_ss, eqF_ii, eqF_bb, zB_Add_i, zB_Sub_i, zB_Mult_i, zB_FloorDiv_i, zB_Mod_i, zB_Pow_i, zB_BitAnd_i, zB_BitOr_i, zB_Add_s, zB_Add_t, zB_Add_l, zB_Mul_l, zIx_tup, zIx_lst, zIx_rol, zIx_str, zIx_mset, zLen_tup, zLen_lst, zLen_rol, zLen_str, zLen_mset, zInt_i, zInt_b, zTuple_t, zTuple_l, zTuple_m, zMax_ii, zMin_ii, zNeg_i, zNotV_b, zAllAny_l, wL_mset, szl0, szl1, szl2, szl3, szl4, szl5, szl6, szl7, szl8, szl9, szl10, szl11, szl12, szl13, szl14, szl15, szl16, szl17, szl18, szl19, szl20, szl21, szl22, szl23, szl24, szl25, szl26, szl27, szl28, szl29, szl30, szl31, szl32, szl33, szl34, szl35, szl36, szl37, szl38, szl39, szl40, szl41, szl42, szl43, szl44, szl45, szl46, szl47, szl48, szl49, szl50, szl51, szl52, szl53, szl54, szl55, szl56, szl57, szl58, szl59, szl60, szl61, szl62, szl63, szl64, szl65, szl66, szl67, szl68, szl69, frzV_ref, zfrz, Option.map_some, Option.map_none, frzV_non, frzV_bl, frzV_int, frzV_str, frzV_tup, frzV_lst, frzV_rol, frzV_dct]
    by_cases h1 : (-1000000000 < n) <;> simp only [h1, zsp, zSs, zS, zE, zEs, zT, zBoVs, zBoTs, zA, zIfs, zI, zO, zG, zGs, zsCons, zsNil, zsIf, zsRet, zsRetN, zsExpr, zsAsg, zsPar, zsFor, zsSet, zsSetL, zsPass, zsBreak, zsCont, zsFrz, zEnds, zstart, z1, z2, zVar, zGet, zCst, zChain_eq, onB_bl, tOf, zNotT, zBoT, zBoV, zIf, zNil, zCons, zTup, zPart, zNoPart, zSl, zSlL, zCB, zCBL, zBF, zLM, LM.ty, IC.pv, zAbs, zList, zIsi, zVal, zRng1, zRng2, zEnum, Zz.gNm, Zz.gNil, Zz.gCons, Zz.gTup, zCall, zMt, zAppend, zExtend, zInsert, zPop, zReverse, zRev, zDct0, zDctK, zDctT, zYes, zLc, zwipe, zCmp, zEq, zIs, isNonP, List.map_cons, List.map_nil, List.cons_append, List.nil_append, List.replicate_succ, List.replicate_zero, List.length_cons, List.length_nil, List.set_cons_zero, List.set_cons_succ, List.getElem?_cons_zero, List.getElem?_cons_succ, Option.join_some, Nat.reduceAdd, Nat.reduceSub, Nat.zero_add, isiB, Bool.not_eq_true', decide_eq_false_iff_not, decide_eq_true_eq,  tyP_non, isDct_non, rs_non, tyP_bl, isDct_bl, rs_bl, tyP_int, isDct_int, rs_int, tyP_str, isDct_str, rs_str, tyP_tup, isDct_tup, rs_tup, tyP_lst, isDct_lst, rs_lst, tyP_rol, isDct_rol, rs_rol, tyP_dct, isDct_dct, rs_dct, asL_lst, asL_rol, asS_lst, asS_rol, asS_tup, asW_lst, asT_tup, asL_mset, asS_mset, asW_mset, refL_mset, isDct_mset, tyP_mset, rs_mset, Option.some.injEq, exists_eq_left', true_and, and_true, Bool.not_true, Bool.not_false, Bool.false_eq_true, if_true, if_false, ite_true, ite_false, String.reduceBEq, Bool.or_false, Bool.or_true, Bool.false_or, Bool.true_or, Bool.and_false, Bool.and_true, Bool.true_and, Bool.false_and, reduceIte, PV.int.injEq, exists_const, PV.tup.injEq, PV.lst.injEq, PV.ref.injEq, PV.ty.injEq, zIn, List.all_cons, List.all_nil, List.any_cons, List.any_nil, atP_0, atP_1, atP_2, flat_ints, Zz.any_ints, Nat.zero_le, IC.v, Nat.reduceLeDiff, forall_const, mset_mset, not_true_eq_false, not_false_eq_true, cpow9, pow9, cpow18, pow18, cpow30, pow30, ex2, Bool.true_eq_false, Int.cast_ofNat_Int, Int.ofNat_eq_natCast, flatP_non, flatP_bl, flatP_int, flatP_str, flatP_tup, flatP_lst, flatP_dct, eqF_ss, eqF_ii, eqF_bb, zB_Add_i, zB_Sub_i, zB_Mult_i, zB_FloorDiv_i, zB_Mod_i, zB_Pow_i, zB_BitAnd_i, zB_BitOr_i, zB_Add_s, zB_Add_t, zB_Add_l, zB_Mul_l, zIx_tup, zIx_lst, zIx_rol, zIx_str, zIx_mset, zLen_tup, zLen_lst, zLen_rol, zLen_str, zLen_mset, zInt_i, zInt_b, zTuple_t, zTuple_l, zTuple_m, zMax_ii, zMin_ii, zNeg_i, zNotV_b, zAllAny_l, wL_mset, szl0, szl1, szl2, szl3, szl4, szl5, szl6, szl7, szl8, szl9, szl10, szl11, szl12, szl13, szl14, szl15, szl16, szl17, szl18, szl19, szl20, szl21, szl22, szl23, szl24, szl25, szl26, szl27, szl28, szl29, szl30, szl31, szl32, szl33, szl34, szl35, szl36, szl37, szl38, szl39, szl40, szl41, szl42, szl43, szl44, szl45, szl46, szl47, szl48, szl49, szl50, szl51, szl52, szl53, szl54, szl55, szl56, szl57, szl58, szl59, szl60, szl61, szl62, szl63, szl64, szl65, szl66, szl67, szl68, szl69, frzV_ref, zfrz, Option.map_some, Option.map_none, frzV_non, frzV_bl, frzV_int, frzV_str, frzV_tup, frzV_lst, frzV_rol, frzV_dct] <;> apply ret_same <;> simpa [isKey, h1] using q
  | str s =>
    simp only [isWhole, zsp, zSs, zS, zE, zEs, zT, zBoVs, zBoTs, zA, zIfs, zI, zO, zG, zGs, zsCons, zsNil, zsIf, zsRet, zsRetN, zsExpr, zsAsg, zsPar, zsFor, zsSet, zsSetL, zsPass, zsBreak, zsCont, zsFrz, zEnds, zstart, z1, z2, zVar, zGet, zCst, zChain_eq, onB_bl, tOf, zNotT, zBoT, zBoV, zIf, zNil, zCons, zTup, zPart, zNoPart, zSl, zSlL, zCB, zCBL, zBF, zLM, LM.ty, IC.pv, zAbs, zList, zIsi, zVal, zRng1, zRng2, zEnum, Zz.gNm, Zz.gNil, Zz.gCons, Zz.gTup, zCall, zMt, zAppend, zExtend, zInsert, zPop, zReverse, zRev, zDct0, zDctK, zDctT, zYes, zLc, zwipe, zCmp, zEq, zIs, isNonP, List.map_cons, List.map_nil, List.cons_append, List.nil_append, List.replicate_succ, List.replicate_zero, List.length_cons, List.length_nil, List.set_cons_zero, List.set_cons_succ, List.getElem?_cons_zero, List.getElem?_cons_succ, Option.join_some, Nat.reduceAdd, Nat.reduceSub, Nat.zero_add, isiB, Bool.not_eq_true', decide_eq_false_iff_not, decide_eq_true_eq,  tyP_non, isDct_non, rs_non, tyP_bl, isDct_bl, rs_bl, tyP_int, isDct_int, rs_int, tyP_str, isDct_str, rs_str, tyP_tup, isDct_tup, rs_tup, tyP_lst, isDct_lst, rs_lst, tyP_rol, isDct_rol, rs_rol, tyP_dct, isDct_dct, rs_dct, asL_lst, asL_rol, asS_lst, asS_rol, asS_tup, asW_lst, asT_tup, asL_mset, asS_mset, asW_mset, refL_mset, isDct_mset, tyP_mset, rs_mset, Option.some.injEq, exists_eq_left', true_and, and_true, Bool.not_true, Bool.not_false, Bool.false_eq_true, if_true, if_false, ite_true, ite_false, String.reduceBEq, Bool.or_false, Bool.or_true, Bool.false_or, Bool.true_or, Bool.and_false, Bool.and_true, Bool.true_and, Bool.false_and, reduceIte, PV.int.injEq, exists_const, PV.tup.injEq, PV.lst.injEq, PV.ref.injEq, PV.ty.injEq, zIn, List.all_cons, List.all_nil, List.any_cons, List.any_nil, atP_0, atP_1, atP_2, flat_ints, Zz.any_ints, Nat.zero_le, IC.v, Nat.reduceLeDiff, forall_const, mset_mset, not_true_eq_false, not_false_eq_true, cpow9, pow9, cpow18, pow18, cpow30, pow30, ex2, Bool.true_eq_false, Int.cast_ofNat_Int, Int.ofNat_eq_natCast, flatP_non, flatP_bl, flatP_int, flatP_str, flatP_tup, flatP_lst, flatP_dct, eqF_ss, eqF_ii, eqF_bb, zB_Add_i, zB_Sub_i, zB_Mult_i, zB_FloorDiv_i, zB_Mod_i, zB_Pow_i, zB_BitAnd_i, zB_BitOr_i, zB_Add_s, zB_Add_t, zB_Add_l, zB_Mul_l, zIx_tup, zIx_lst, zIx_rol, zIx_str, zIx_mset, zLen_tup, zLen_lst, zLen_rol, zLen_str, zLen_mset, zInt_i, zInt_b, zTuple_t, zTuple_l, zTuple_m, zMax_ii, zMin_ii, zNeg_i, zNotV_b, zAllAny_l, wL_mset, szl0, szl1, szl2, szl3, szl4, szl5, szl6, szl7, szl8, szl9, szl10, szl11, szl12, szl13, szl14, szl15, szl16, szl17, szl18, szl19, szl20, szl21, szl22, szl23, szl24, szl25, szl26, szl27, szl28, szl29, szl30, szl31, szl32, szl33, szl34, szl35, szl36, szl37, szl38, szl39, szl40, szl41, szl42, szl43, szl44, szl45, szl46, szl47, szl48, szl49, szl50, szl51, szl52, szl53, szl54, szl55, szl56, szl57, szl58, szl59, szl60, szl61, szl62, szl63, szl64, szl65, szl66, szl67, szl68, szl69, frzV_ref, zfrz, Option.map_some, Option.map_none, frzV_non, frzV_bl, frzV_int, frzV_str, frzV_tup, frzV_lst, frzV_rol, frzV_dct]
    by_cases h1 : 1 ≤ (s.length : Int) <;> by_cases h2 : (s.length : Int) ≤ 8 <;> simp only [h1, h2, zsp, zSs, zS, zE, zEs, zT, zBoVs, zBoTs, zA, zIfs, zI, zO, zG, zGs, zsCons, zsNil, zsIf, zsRet, zsRetN, zsExpr, zsAsg, zsPar, zsFor, zsSet, zsSetL, zsPass, zsBreak, zsCont, zsFrz, zEnds, zstart, z1, z2, zVar, zGet, zCst, zChain_eq, onB_bl, tOf, zNotT, zBoT, zBoV, zIf, zNil, zCons, zTup, zPart, zNoPart, zSl, zSlL, zCB, zCBL, zBF, zLM, LM.ty, IC.pv, zAbs, zList, zIsi, zVal, zRng1, zRng2, zEnum, Zz.gNm, Zz.gNil, Zz.gCons, Zz.gTup, zCall, zMt, zAppend, zExtend, zInsert, zPop, zReverse, zRev, zDct0, zDctK, zDctT, zYes, zLc, zwipe, zCmp, zEq, zIs, isNonP, List.map_cons, List.map_nil, List.cons_append, List.nil_append, List.replicate_succ, List.replicate_zero, List.length_cons, List.length_nil, List.set_cons_zero, List.set_cons_succ, List.getElem?_cons_zero, List.getElem?_cons_succ, Option.join_some, Nat.reduceAdd, Nat.reduceSub, Nat.zero_add, isiB, Bool.not_eq_true', decide_eq_false_iff_not, decide_eq_true_eq,  tyP_non, isDct_non, rs_non, tyP_bl, isDct_bl, rs_bl, tyP_int, isDct_int, rs_int, tyP_str, isDct_str, rs_str, tyP_tup, isDct_tup, rs_tup, tyP_lst, isDct_lst, rs_lst, tyP_rol, isDct_rol, rs_rol, tyP_dct, isDct_dct, rs_dct, asL_lst, asL_rol, asS_lst, asS_rol, asS_tup, asW_lst, asT_tup, asL_mset, asS_mset, asW_mset, refL_mset, isDct_mset, tyP_mset, rs_mset, Option.some.injEq, exists_eq_left', true_and, and_true, Bool.not_true, Bool.not_false, Bool.false_eq_true, if_true, if_false, ite_true, ite_false, String.reduceBEq, Bool.or_false, Bool.or_true, Bool.false_or, Bool.true_or, Bool.and_false, Bool.and_true, Bool.true_and, Bool.false_and, reduceIte, PV.int.injEq, exists_const, PV.tup.injEq, PV.lst.injEq, PV.ref.injEq, PV.ty.injEq, zIn, List.all_cons, List.all_nil, List.any_cons, List.any_nil, atP_0, atP_1, atP_2, flat_ints, Zz.any_ints, Nat.zero_le, IC.v, Nat.reduceLeDiff, forall_const, mset_mset, not_true_eq_false, not_false_eq_true, cpow9, pow9, cpow18, pow18, cpow30, pow30, ex2, Bool.true_eq_false, Int.cast_ofNat_Int, Int.ofNat_eq_natCast, flatP_non, flatP_bl, flatP_int, flatP_str, flatP_tup, flatP_lst, flatP_dct, eqF_ss, eqF_ii, eqF_bb, zB_Add_i, zB_Sub_i, zB_Mult_i, zB_FloorDiv_i, zB_Mod_i, zB_Pow_i, zB_BitAnd_i, zB_BitOr_i, zB_Add_s, zB_Add_t, zB_Add_l, zB_Mul_l, zIx_tup, zIx_lst, zIx_rol, zIx_str, zIx_mset, zLen_tup, zLen_lst, zLen_rol, zLen_str, zLen_mset, zInt_i, zInt_b, zTuple_t, zTuple_l, zTuple_m, zMax_ii, zMin_ii, zNeg_i, zNotV_b, zAllAny_l, wL_mset, szl0, szl1, szl2, szl3, szl4, szl5, szl6, szl7, szl8, szl9, szl10, szl11, szl12, szl13, szl14, szl15, szl16, szl17, szl18, szl19, szl20, szl21, szl22, szl23, szl24, szl25, szl26, szl27, szl28, szl29, szl30, szl31, szl32, szl33, szl34, szl35, szl36, szl37, szl38, szl39, szl40, szl41, szl42, szl43, szl44, szl45, szl46, szl47, szl48, szl49, szl50, szl51, szl52, szl53, szl54, szl55, szl56, szl57, szl58, szl59, szl60, szl61, szl62, szl63, szl64, szl65, szl66, szl67, szl68, szl69, frzV_ref, zfrz, Option.map_some, Option.map_none, frzV_non, frzV_bl, frzV_int, frzV_str, frzV_tup, frzV_lst, frzV_rol, frzV_dct]
    case pos =>
      refine lc_map (fun x => .bl (decide (chOf x ∈ letters.cps.toList))) _ (fun x hx N R q => ?_) ?_
      · obtain ⟨c, _, rfl⟩ := List.mem_map.mp hx
        simp only [zsp, zSs, zS, zE, zEs, zT, zBoVs, zBoTs, zA, zIfs, zI, zO, zG, zGs, zsCons, zsNil, zsIf, zsRet, zsRetN, zsExpr, zsAsg, zsPar, zsFor, zsSet, zsSetL, zsPass, zsBreak, zsCont, zsFrz, zEnds, zstart, z1, z2, zVar, zGet, zCst, zChain_eq, onB_bl, tOf, zNotT, zBoT, zBoV, zIf, zNil, zCons, zTup, zPart, zNoPart, zSl, zSlL, zCB, zCBL, zBF, zLM, LM.ty, IC.pv, zAbs, zList, zIsi, zVal, zRng1, zRng2, zEnum, Zz.gNm, Zz.gNil, Zz.gCons, Zz.gTup, zCall, zMt, zAppend, zExtend, zInsert, zPop, zReverse, zRev, zDct0, zDctK, zDctT, zYes, zLc, zwipe, zCmp, zEq, zIs, isNonP, List.map_cons, List.map_nil, List.cons_append, List.nil_append, List.replicate_succ, List.replicate_zero, List.length_cons, List.length_nil, List.set_cons_zero, List.set_cons_succ, List.getElem?_cons_zero, List.getElem?_cons_succ, Option.join_some, Nat.reduceAdd, Nat.reduceSub, Nat.zero_add, isiB, Bool.not_eq_true', decide_eq_false_iff_not, decide_eq_true_eq,  tyP_non, isDct_non, rs_non, tyP_bl, isDct_bl, rs_bl, tyP_int, isDct_int, rs_int, tyP_str, isDct_str, rs_str, tyP_tup, isDct_tup, rs_tup, tyP_lst, isDct_lst, rs_lst, tyP_rol, isDct_rol, rs_rol, tyP_dct, isDct_dct, rs_dct, asL_lst, asL_rol, asS_lst, asS_rol, asS_tup, asW_lst, asT_tup, asL_mset, asS_mset, asW_mset, refL_mset, isDct_mset, tyP_mset, rs_mset, Option.some.injEq, exists_eq_left', true_and, and_true, Bool.not_true, Bool.not_false, Bool.false_eq_true, if_true, if_false, ite_true, ite_false, String.reduceBEq, Bool.or_false, Bool.or_true, Bool.false_or, Bool.true_or, Bool.and_false, Bool.and_true, Bool.true_and, Bool.false_and, reduceIte, PV.int.injEq, exists_const, PV.tup.injEq, PV.lst.injEq, PV.ref.injEq, PV.ty.injEq, zIn, List.all_cons, List.all_nil, List.any_cons, List.any_nil, atP_0, atP_1, atP_2, flat_ints, Zz.any_ints, Nat.zero_le, IC.v, Nat.reduceLeDiff, forall_const, mset_mset, not_true_eq_false, not_false_eq_true, cpow9, pow9, cpow18, pow18, cpow30, pow30, ex2, Bool.true_eq_false, Int.cast_ofNat_Int, Int.ofNat_eq_natCast, flatP_non, flatP_bl, flatP_int, flatP_str, flatP_tup, flatP_lst, flatP_dct, eqF_ss, eqF_ii, eqF_bb, zB_Add_i, zB_Sub_i, zB_Mult_i, zB_FloorDiv_i, zB_Mod_i, zB_Pow_i, zB_BitAnd_i, zB_BitOr_i, zB_Add_s, zB_Add_t, zB_Add_l, zB_Mul_l, zIx_tup, zIx_lst, zIx_rol, zIx_str, zIx_mset, zLen_tup, zLen_lst, zLen_rol, zLen_str, zLen_mset, zInt_i, zInt_b, zTuple_t, zTuple_l, zTuple_m, zMax_ii, zMin_ii, zNeg_i, zNotV_b, zAllAny_l, wL_mset, szl0, szl1, szl2, szl3, szl4, szl5, szl6, szl7, szl8, szl9, szl10, szl11, szl12, szl13, szl14, szl15, szl16, szl17, szl18, szl19, szl20, szl21, szl22, szl23, szl24, szl25, szl26, szl27, szl28, szl29, szl30, szl31, szl32, szl33, szl34, szl35, szl36, szl37, szl38, szl39, szl40, szl41, szl42, szl43, szl44, szl45, szl46, szl47, szl48, szl49, szl50, szl51, szl52, szl53, szl54, szl55, szl56, szl57, szl58, szl59, szl60, szl61, szl62, szl63, szl64, szl65, szl66, szl67, szl68, szl69, frzV_ref, zfrz, Option.map_some, Option.map_none, frzV_non, frzV_bl, frzV_int, frzV_str, frzV_tup, frzV_lst, frzV_rol, frzV_dct, zIn]
        exact ⟨c, rfl, q⟩
      · refine ⟨?_, s.cps.toList.map fun c => decide (c ∈ letters.cps.toList), ?_, ret_same ?_⟩
        · simp [chars]
          exact Nat.le_trans (Int.ofNat_le.mp h2) (by decide)
        · simp [chars, List.map_map, Function.comp_def, chOf_one] <;> intros <;> rfl
        · rw [all_id_map]
          have h1' : 1 ≤ s.length := by omega
          have h2' : s.length ≤ 8 := by omega
          simpa [isKey, h1', h2'] using q
    all_goals
      apply ret_same
      have h1' : decide (1 ≤ s.length) = decide (1 ≤ (s.length : Int)) := by simp; omega
      have h2' : decide (s.length ≤ 8) = decide ((s.length : Int) ≤ 8) := by simp; omega
      simpa [isKey, h1', h2', h1, h2] using q
  | _ => 
    simp only [isWhole, zsp, zSs, zS, zE, zEs, zT, zBoVs, zBoTs, zA, zIfs, zI, zO, zG, zGs, zsCons, zsNil, zsIf, zsRet, zsRetN, zsExpr, zsAsg, zsPar, zsFor, zsSet, zsSetL, zsPass, zsBreak, zsCont, zsFrz, zEnds, zstart, z1, z2, zVar, zGet, zCst, zChain_eq, onB_bl, tOf, zNotT, zBoT, zBoV, zIf, zNil, zCons, zTup, zPart, zNoPart, zSl, zSlL, zCB, zCBL, zBF, zLM, LM.ty, IC.pv, zAbs, zList, zIsi, zVal, zRng1, zRng2, zEnum, Zz.gNm, Zz.gNil, Zz.gCons, Zz.gTup, zCall, zMt, zAppend, zExtend, zInsert, zPop, zReverse, zRev, zDct0, zDctK, zDctT, zYes, zLc, zwipe, zCmp, zEq, zIs, isNonP, List.map_cons, List.map_nil, List.cons_append, List.nil_append, List.replicate_succ, List.replicate_zero, List.length_cons, List.length_nil, List.set_cons_zero, List.set_cons_succ, List.getElem?_cons_zero, List.getElem?_cons_succ, Option.join_some, Nat.reduceAdd, Nat.reduceSub, Nat.zero_add, isiB, Bool.not_eq_true', decide_eq_false_iff_not, decide_eq_true_eq,  tyP_non, isDct_non, rs_non, tyP_bl, isDct_bl, rs_bl, tyP_int, isDct_int, rs_int, tyP_str, isDct_str, rs_str, tyP_tup, isDct_tup, rs_tup, tyP_lst, isDct_lst, rs_lst, tyP_rol, isDct_rol, rs_rol, tyP_dct, isDct_dct, rs_dct, asL_lst, asL_rol, asS_lst, asS_rol, asS_tup, asW_lst, asT_tup, asL_mset, asS_mset, asW_mset, refL_mset, isDct_mset, tyP_mset, rs_mset, Option.some.injEq, exists_eq_left', true_and, and_true, Bool.not_true, Bool.not_false, Bool.false_eq_true, if_true, if_false, ite_true, ite_false, String.reduceBEq, Bool.or_false, Bool.or_true, Bool.false_or, Bool.true_or, Bool.and_false, Bool.and_true, Bool.true_and, Bool.false_and, reduceIte, PV.int.injEq, exists_const, PV.tup.injEq, PV.lst.injEq, PV.ref.injEq, PV.ty.injEq, zIn, List.all_cons, List.all_nil, List.any_cons, List.any_nil, atP_0, atP_1, atP_2, flat_ints, Zz.any_ints, Nat.zero_le, IC.v, Nat.reduceLeDiff, forall_const, mset_mset, not_true_eq_false, not_false_eq_true, cpow9, pow9, cpow18, pow18, cpow30, pow30, ex2, Bool.true_eq_false, Int.cast_ofNat_Int, Int.ofNat_eq_natCast, flatP_non, flatP_bl, flatP_int, flatP_str, flatP_tup, flatP_lst, flatP_dct, eqF_ss, eqF_ii, eqF_bb, zB_Add_i, zB_Sub_i, zB_Mult_i, zB_FloorDiv_i, zB_Mod_i, zB_Pow_i, zB_BitAnd_i, zB_BitOr_i, zB_Add_s, zB_Add_t, zB_Add_l, zB_Mul_l, zIx_tup, zIx_lst, zIx_rol, zIx_str, zIx_mset, zLen_tup, zLen_lst, zLen_rol, zLen_str, zLen_mset, zInt_i, zInt_b, zTuple_t, zTuple_l, zTuple_m, zMax_ii, zMin_ii, zNeg_i, zNotV_b, zAllAny_l, wL_mset, szl0, szl1, szl2, szl3, szl4, szl5, szl6, szl7, szl8, szl9, szl10, szl11, szl12, szl13, szl14, szl15, szl16, szl17, szl18, szl19, szl20, szl21, szl22, szl23, szl24, szl25, szl26, szl27, szl28, szl29, szl30, szl31, szl32, szl33, szl34, szl35, szl36, szl37, szl38, szl39, szl40, szl41, szl42, szl43, szl44, szl45, szl46, szl47, szl48, szl49, szl50, szl51, szl52, szl53, szl54, szl55, szl56, szl57, szl58, szl59, szl60, szl61, szl62, szl63, szl64, szl65, szl66, szl67, szl68, szl69, frzV_ref, zfrz, Option.map_some, Option.map_none, frzV_non, frzV_bl, frzV_int, frzV_str, frzV_tup, frzV_lst, frzV_rol, frzV_dct]
    first | exact ret_same q | (simp [pl] at h; done)
theorem sp_L_is_key (h : pl x = true) (q : Q (.bl (isKey x)) M) : ZCall T (k + 2) "_law_is_key" [x] M Q X := by
  apply call_L_is_key E rfl
  cases x with
  | int n =>
    simp only [ir_L_is_key, N_L_is_key, zsp, zSs, zS, zE, zEs, zT, zBoVs, zBoTs, zA, zIfs, zI, zO, zG, zGs, zsCons, zsNil, zsIf, zsRet, zsRetN, zsExpr, zsAsg, zsPar, zsFor, zsSet, zsSetL, zsPass, zsBreak, zsCont, zsFrz, zEnds, zstart, z1, z2, zVar, zGet, zCst, zChain_eq, onB_bl, tOf, zNotT, zBoT, zBoV, zIf, zNil, zCons, zTup, zPart, zNoPart, zSl, zSlL, zCB, zCBL, zBF, zLM, LM.ty, IC.pv, zAbs, zList, zIsi, zVal, zRng1, zRng2, zEnum, Zz.gNm, Zz.gNil, Zz.gCons, Zz.gTup, zCall, zMt, zAppend, zExtend, zInsert, zPop, zReverse, zRev, zDct0, zDctK, zDctT, zYes, zLc, zwipe, zCmp, zEq, zIs, isNonP, List.map_cons, List.map_nil, List.cons_append, List.nil_append, List.replicate_succ, List.replicate_zero, List.length_cons, List.length_nil, List.set_cons_zero, List.set_cons_succ, List.getElem?_cons_zero, List.getElem?_cons_succ, Option.join_some, Nat.reduceAdd, Nat.reduceSub, Nat.zero_add, isiB, Bool.not_eq_true', decide_eq_false_iff_not, decide_eq_true_eq,  tyP_non, isDct_non, rs_non, tyP_bl, isDct_bl, rs_bl, tyP_int, isDct_int, rs_int, tyP_str, isDct_str, rs_str, tyP_tup, isDct_tup, rs_tup, tyP_lst, isDct_lst, rs_lst, tyP_rol, isDct_rol, rs_rol, tyP_dct, isDct_dct, rs_dct, asL_lst, asL_rol, asS_lst, asS_rol, asS_tup, asW_lst, asT_tup, asL_mset, asS_mset, asW_mset, refL_mset, isDct_mset, tyP_mset, rs_mset, Option.some.injEq, exists_eq_left', true_and, and_true, Bool.not_true, Bool.not_false, Bool.false_eq_true, if_true, if_false, ite_true, ite_false, String.reduceBEq, Bool.or_false, Bool.or_true, Bool.false_or, Bool.true_or, Bool.and_false, Bool.and_true, Bool.true_and, Bool.false_and, reduceIte, PV.int.injEq, exists_const, PV.tup.injEq, PV.lst.injEq, PV.ref.injEq, PV.ty.injEq, zIn, List.all_cons, List.all_nil, List.any_cons, List.any_nil, atP_0, atP_1, atP_2, flat_ints, Zz.any_ints, Nat.zero_le, IC.v, Nat.reduceLeDiff, forall_const, mset_mset, not_true_eq_false, not_false_eq_true, cpow9, pow9, cpow18, pow18, cpow30, pow30, ex2, Bool.true_eq_false, Int.cast_ofNat_Int, Int.ofNat_eq_natCast, flatP_non, flatP_bl, flatP_int, flatP_str, flatP_tup, flatP_lst, flatP_dct, eqF_ss, eqF_ii, eqF_bb, zB_Add_i, zB_Sub_i, zB_Mult_i, zB_FloorDiv_i, zB_Mod_i, zB_Pow_i, zB_BitAnd_i, zB_BitOr_i, zB_Add_s, zB_Add_t, zB_Add_l, zB_Mul_l, zIx_tup, zIx_lst, zIx_rol, zIx_str, zIx_mset, zLen_tup, zLen_lst, zLen_rol, zLen_str, zLen_mset, zInt_i, zInt_b, zTuple_t, zTuple_l, zTuple_m, zMax_ii, zMin_ii, zNeg_i, zNotV_b, zAllAny_l, wL_mset, szl0, szl1, szl2, szl3, szl4, szl5, szl6, szl7, szl8, szl9, szl10, szl11, szl12, szl13, szl14, szl15, szl16, szl17, szl18, szl19, szl20, szl21, szl22, szl23, szl24, szl25, szl26, szl27, szl28, szl29, szl30, szl31, szl32, szl33, szl34, szl35, szl36, szl37, szl38, szl39, szl40, szl41, szl42, szl43, szl44, szl45, szl46, szl47, szl48, szl49, szl50, szl51, szl52, szl53, szl54, szl55, szl56, szl57, szl58, szl59, szl60, szl61, szl62, szl63, szl64, szl65, szl66, szl67, szl68, szl69, frzV_ref, zfrz, Option.map_some, Option.map_none, frzV_non, frzV_bl, frzV_int, frzV_str, frzV_tup, frzV_lst, frzV_rol, frzV_dct]
    refine sp_L_whole E rfl ?_
    simp only [isWhole, zsp, zSs, zS, zE, zEs, zT, zBoVs, zBoTs, zA, zIfs, zI, zO, zG, zGs, zsCons, zsNil, zsIf, zsRet, zsRetN, zsExpr, zsAsg, zsPar, zsFor, zsSet, zsSetL, zsPass, zsBreak, zsCont, zsFrz, zEnds, zstart, z1, z2, zVar, zGet, zCst, zChain_eq, onB_bl, tOf, zNotT, zBoT, zBoV, zIf, zNil, zCons, zTup, zPart, zNoPart, zSl, zSlL, zCB, zCBL, zBF, zLM, LM.ty, IC.pv, zAbs, zList, zIsi, zVal, zRng1, zRng2, zEnum, Zz.gNm, Zz.gNil, Zz.gCons, Zz.gTup, zCall, zMt, zAppend, zExtend, zInsert, zPop, zReverse, zRev, zDct0, zDctK, zDctT, zYes, zLc, zwipe, zCmp, zEq, zIs, isNonP, List.map_cons, List.map_nil, List.cons_append, List.nil_append, List.replicate_succ, List.replicate_zero, List.length_cons, List.length_nil, List.set_cons_zero, List.set_cons_succ, List.getElem?_cons_zero, List.getElem?_cons_succ, Option.join_some, Nat.reduceAdd, Nat.reduceSub, Nat.zero_add, isiB, Bool.not_eq_true', decide_eq_false_iff_not, decide_eq_true_eq,  tyP_non, isDct_non, rs_non, tyP_bl, isDct_bl, rs_bl, tyP_int, isDct_int, rs_int, tyP_str, isDct_str, rs_str, tyP_tup, isDct_tup, rs_tup, tyP_lst, isDct_lst, rs_lst, tyP_rol, isDct_rol, rs_rol, tyP_dct, isDct_dct, rs_dct, asL_lst, asL_rol, asS_lst, asS_rol, asS_tup, asW_lst, asT_tup, asL_mset, asS_mset, asW_mset, refL_mset, isDct_mset, tyP_mset, rs_mset, Option.some.injEq, exists_eq_left', true_and, and_true, Bool.not_true, Bool.not_false, Bool.false_eq_true, if_true, if_false, ite_true, ite_false, String.reduceBEq, Bool.or_false, Bool.or_true, Bool.false_or, Bool.true_or, Bool.and_false, Bool.and_true, Bool.true_and, Bool.false_and, reduceIte, PV.int.injEq, exists_const, PV.tup.injEq, PV.lst.injEq, PV.ref.injEq, PV.ty.injEq, zIn, List.all_cons, List.all_nil, List.any_cons, List.any_nil, atP_0, atP_1, atP_2, flat_ints, Zz.any_ints, Nat.zero_le, IC.v, Nat.reduceLeDiff, forall_const, mset_mset, not_true_eq_false, not_false_eq_true, cpow9, pow9, cpow18, pow18, cpow30, pow30, ex2, Bool.true_eq_false, Int.cast_ofNat_Int, Int.ofNat_eq_natCast, flatP_non, flatP_bl, flatP_int, flatP_str, flatP_tup, flatP_lst, flatP_dct, eqF_ss, eqF_ii, eqF_bb, zB_Add_i, zB_Sub_i, zB_Mult_i, zB_FloorDiv_i, zB_Mod_i, zB_Pow_i, zB_BitAnd_i, zB_BitOr_i, zB_Add_s, zB_Add_t, zB_Add_l, zB_Mul_l, zIx_tup, zIx_lst, zIx_rol, zIx_str, zIx_mset, zLen_tup, zLen_lst, zLen_rol, zLen_str, zLen_mset, zInt_i, zInt_b, zTuple_t, zTuple_l, zTuple_m, zMax_ii, zMin_ii, zNeg_i, zNotV_b, zAllAny_l, wL_mset, szl0, szl1, szl2, szl3, szl4, szl5, szl6, szl7, szl8, szl9, szl10, szl11, szl12, szl13, szl14, szl15, szl16, szl17, szl18, szl19, szl20, szl21, szl22, szl23, szl24, szl25, szl26, szl27, szl28, szl29, szl30, szl31, szl32, szl33, szl34, szl35, szl36, szl37, szl38, szl39, szl40, szl41, szl42, szl43, szl44, szl45, szl46, szl47, szl48, szl49, szl50, szl51, szl52, szl53, szl54, szl55, szl56, szl57, szl58, szl59, szl60, szl61, szl62, szl63, szl64, szl65, szl66, szl67, szl68, szl69, frzV_ref, zfrz, Option.map_some, Option.map_none, frzV_non, frzV_bl, frzV_int, frzV_str, frzV_tup, frzV_lst, frzV_rol, frzV_dct]
    by_cases h1 : (-1000000000 < n) <;> simp only [h1, zsp, zSs, zS, zE, zEs, zT, zBoVs, zBoTs, zA, zIfs, zI, zO, zG, zGs, zsCons, zsNil, zsIf, zsRet, zsRetN, zsExpr, zsAsg, zsPar, zsFor, zsSet, zsSetL, zsPass, zsBreak, zsCont, zsFrz, zEnds, zstart, z1, z2, zVar, zGet, zCst, zChain_eq, onB_bl, tOf, zNotT, zBoT, zBoV, zIf, zNil, zCons, zTup, zPart, zNoPart, zSl, zSlL, zCB, zCBL, zBF, zLM, LM.ty, IC.pv, zAbs, zList, zIsi, zVal, zRng1, zRng2, zEnum, Zz.gNm, Zz.gNil, Zz.gCons, Zz.gTup, zCall, zMt, zAppend, zExtend, zInsert, zPop, zReverse, zRev, zDct0, zDctK, zDctT, zYes, zLc, zwipe, zCmp, zEq, zIs, isNonP, List.map_cons, List.map_nil, List.cons_append, List.nil_append, List.replicate_succ, List.replicate_zero, List.length_cons, List.length_nil, List.set_cons_zero, List.set_cons_succ, List.getElem?_cons_zero, List.getElem?_cons_succ, Option.join_some, Nat.reduceAdd, Nat.reduceSub, Nat.zero_add, isiB, Bool.not_eq_true', decide_eq_false_iff_not, decide_eq_true_eq,  tyP_non, isDct_non, rs_non, tyP_bl, isDct_bl, rs_bl, tyP_int, isDct_int, rs_int, tyP_str, isDct_str, rs_str, tyP_tup, isDct_tup, rs_tup, tyP_lst, isDct_lst, rs_lst, tyP_rol, isDct_rol, rs_rol, tyP_dct, isDct_dct, rs_dct, asL_lst, asL_rol, asS_lst, asS_rol, asS_tup, asW_lst, asT_tup, asL_mset, asS_mset, asW_mset, refL_mset, isDct_mset, tyP_mset, rs_mset, Option.some.injEq, exists_eq_left', true_and, and_true, Bool.not_true, Bool.not_false, Bool.false_eq_true, if_true, if_false, ite_true, ite_false, String.reduceBEq, Bool.or_false, Bool.or_true, Bool.false_or, Bool.true_or, Bool.and_false, Bool.and_true, Bool.true_and, Bool.false_and, reduceIte, PV.int.injEq, exists_const, PV.tup.injEq, PV.lst.injEq, PV.ref.injEq, PV.ty.injEq, zIn, List.all_cons, List.all_nil, List.any_cons, List.any_nil, atP_0, atP_1, atP_2, flat_ints, Zz.any_ints, Nat.zero_le, IC.v, Nat.reduceLeDiff, forall_const, mset_mset, not_true_eq_false, not_false_eq_true, cpow9, pow9, cpow18, pow18, cpow30, pow30, ex2, Bool.true_eq_false, Int.cast_ofNat_Int, Int.ofNat_eq_natCast, flatP_non, flatP_bl, flatP_int, flatP_str, flatP_tup, flatP_lst, flatP_dct, eqF_ss, eqF_ii, eqF_bb, zB_Add_i, zB_Sub_i, zB_Mult_i, zB_FloorDiv_i, zB_Mod_i, zB_Pow_i, zB_BitAnd_i, zB_BitOr_i, zB_Add_s, zB_Add_t, zB_Add_l, zB_Mul_l, zIx_tup, zIx_lst, zIx_rol, zIx_str, zIx_mset, zLen_tup, zLen_lst, zLen_rol, zLen_str, zLen_mset, zInt_i, zInt_b, zTuple_t, zTuple_l, zTuple_m, zMax_ii, zMin_ii, zNeg_i, zNotV_b, zAllAny_l, wL_mset, szl0, szl1, szl2, szl3, szl4, szl5, szl6, szl7, szl8, szl9, szl10, szl11, szl12, szl13, szl14, szl15, szl16, szl17, szl18, szl19, szl20, szl21, szl22, szl23, szl24, szl25, szl26, szl27, szl28, szl29, szl30, szl31, szl32, szl33, szl34, szl35, szl36, szl37, szl38, szl39, szl40, szl41, szl42, szl43, szl44, szl45, szl46, szl47, szl48, szl49, szl50, szl51, szl52, szl53, szl54, szl55, szl56, szl57, szl58, szl59, szl60, szl61, szl62, szl63, szl64, szl65, szl66, szl67, szl68, szl69, frzV_ref, zfrz, Option.map_some, Option.map_none, frzV_non, frzV_bl, frzV_int, frzV_str, frzV_tup, frzV_lst, frzV_rol, frzV_dct] <;> apply ret_same <;> simpa [isKey, h1] using q
  | str s =>
    simp only [ir_L_is_key, N_L_is_key, zsp, zSs, zS, zE, zEs, zT, zBoVs, zBoTs, zA, zIfs, zI, zO, zG, zGs, zsCons, zsNil, zsIf, zsRet, zsRetN, zsExpr, zsAsg, zsPar, zsFor, zsSet, zsSetL, zsPass, zsBreak, zsCont, zsFrz, zEnds, zstart, z1, z2, zVar, zGet, zCst, zChain_eq, onB_bl, tOf, zNotT, zBoT, zBoV, zIf, zNil, zCons, zTup, zPart, zNoPart, zSl, zSlL, zCB, zCBL, zBF, zLM, LM.ty, IC.pv, zAbs, zList, zIsi, zVal, zRng1, zRng2, zEnum, Zz.gNm, Zz.gNil, Zz.gCons, Zz.gTup, zCall, zMt, zAppend, zExtend, zInsert, zPop, zReverse, zRev, zDct0, zDctK, zDctT, zYes, zLc, zwipe, zCmp, zEq, zIs, isNonP, List.map_cons, List.map_nil, List.cons_append, List.nil_append, List.replicate_succ, List.replicate_zero, List.length_cons, List.length_nil, List.set_cons_zero, List.set_cons_succ, List.getElem?_cons_zero, List.getElem?_cons_succ, Option.join_some, Nat.reduceAdd, Nat.reduceSub, Nat.zero_add, isiB, Bool.not_eq_true', decide_eq_false_iff_not, decide_eq_true_eq,  tyP_non, isDct_non, rs_non, tyP_bl, isDct_bl, rs_bl, tyP_int, isDct_int, rs_int, tyP_str, isDct_str, rs_str, tyP_tup, isDct_tup, rs_tup, tyP_lst, isDct_lst, rs_lst, tyP_rol, isDct_rol, rs_rol, tyP_dct, isDct_dct, rs_dct, asL_lst, asL_rol, asS_lst, asS_rol, asS_tup, asW_lst, asT_tup, asL_mset, asS_mset, asW_mset, refL_mset, isDct_mset, tyP_mset, rs_mset, Option.some.injEq, exists_eq_left', true_and, and_true, Bool.not_true, Bool.not_false, Bool.false_eq_true, if_true, if_false, ite_true, ite_false, String.reduceBEq, Bool.or_false, Bool.or_true, Bool.false_or, Bool.true_or, Bool.and_false, Bool.and_true, Bool.true_and, Bool.false_and, reduceIte, PV.int.injEq, exists_const, PV.tup.injEq, PV.lst.injEq, PV.ref.injEq, PV.ty.injEq, zIn, List.all_cons, List.all_nil, List.any_cons, List.any_nil, atP_0, atP_1, atP_2, flat_ints, Zz.any_ints, Nat.zero_le, IC.v, Nat.reduceLeDiff, forall_const, mset_mset, not_true_eq_false, not_false_eq_true, cpow9, pow9, cpow18, pow18, cpow30, pow30, ex2, Bool.true_eq_false, Int.cast_ofNat_Int, Int.ofNat_eq_natCast, flatP_non, flatP_bl, flatP_int, flatP_str, flatP_tup, flatP_lst, flatP_dct, eqF_ss, eqF_ii, eqF_bb, zB_Add_i, zB_Sub_i, zB_Mult_i, zB_FloorDiv_i, zB_Mod_i, zB_Pow_i, zB_BitAnd_i, zB_BitOr_i, zB_Add_s, zB_Add_t, zB_Add_l, zB_Mul_l, zIx_tup, zIx_lst, zIx_rol, zIx_str, zIx_mset, zLen_tup, zLen_lst, zLen_rol, zLen_str, zLen_mset, zInt_i, zInt_b, zTuple_t, zTuple_l, zTuple_m, zMax_ii, zMin_ii, zNeg_i, zNotV_b, zAllAny_l, wL_mset, szl0, szl1, szl2, szl3, szl4, szl5, szl6, szl7, szl8, szl9, szl10, szl11, szl12, szl13, szl14, szl15, szl16, szl17, szl18, szl19, szl20, szl21, szl22, szl23, szl24, szl25, szl26, szl27, szl28, szl29, szl30, szl31, szl32, szl33, szl34, szl35, szl36, szl37, szl38, szl39, szl40, szl41, szl42, szl43, szl44, szl45, szl46, szl47, szl48, szl49, szl50, szl51, szl52, szl53, szl54, szl55, szl56, szl57, szl58, szl59, szl60, szl61, szl62, szl63, szl64, szl65, szl66, szl67, szl68, szl69, frzV_ref, zfrz, Option.map_some, Option.map_none, frzV_non, frzV_bl, frzV_int, frzV_str, frzV_tup, frzV_lst, frzV_rol, frzV_dct]
    by_cases h1 : 1 ≤ (s.length : Int) <;> by_cases h2 : (s.length : Int) ≤ 8 <;> simp only [h1, h2, zsp, zSs, zS, zE, zEs, zT, zBoVs, zBoTs, zA, zIfs, zI, zO, zG, zGs, zsCons, zsNil, zsIf, zsRet, zsRetN, zsExpr, zsAsg, zsPar, zsFor, zsSet, zsSetL, zsPass, zsBreak, zsCont, zsFrz, zEnds, zstart, z1, z2, zVar, zGet, zCst, zChain_eq, onB_bl, tOf, zNotT, zBoT, zBoV, zIf, zNil, zCons, zTup, zPart, zNoPart, zSl, zSlL, zCB, zCBL, zBF, zLM, LM.ty, IC.pv, zAbs, zList, zIsi, zVal, zRng1, zRng2, zEnum, Zz.gNm, Zz.gNil, Zz.gCons, Zz.gTup, zCall, zMt, zAppend, zExtend, zInsert, zPop, zReverse, zRev, zDct0, zDctK, zDctT, zYes, zLc, zwipe, zCmp, zEq, zIs, isNonP, List.map_cons, List.map_nil, List.cons_append, List.nil_append, List.replicate_succ, List.replicate_zero, List.length_cons, List.length_nil, List.set_cons_zero, List.set_cons_succ, List.getElem?_cons_zero, List.getElem?_cons_succ, Option.join_some, Nat.reduceAdd, Nat.reduceSub, Nat.zero_add, isiB, Bool.not_eq_true', decide_eq_false_iff_not, decide_eq_true_eq,  tyP_non, isDct_non, rs_non, tyP_bl, isDct_bl, rs_bl, tyP_int, isDct_int, rs_int, tyP_str, isDct_str, rs_str, tyP_tup, isDct_tup, rs_tup, tyP_lst, isDct_lst, rs_lst, tyP_rol, isDct_rol, rs_rol, tyP_dct, isDct_dct, rs_dct, asL_lst, asL_rol, asS_lst, asS_rol, asS_tup, asW_lst, asT_tup, asL_mset, asS_mset, asW_mset, refL_mset, isDct_mset, tyP_mset, rs_mset, Option.some.injEq, exists_eq_left', true_and, and_true, Bool.not_true, Bool.not_false, Bool.false_eq_true, if_true, if_false, ite_true, ite_false, String.reduceBEq, Bool.or_false, Bool.or_true, Bool.false_or, Bool.true_or, Bool.and_false, Bool.and_true, Bool.true_and, Bool.false_and, reduceIte, PV.int.injEq, exists_const, PV.tup.injEq, PV.lst.injEq, PV.ref.injEq, PV.ty.injEq, zIn, List.all_cons, List.all_nil, List.any_cons, List.any_nil, atP_0, atP_1, atP_2, flat_ints, Zz.any_ints, Nat.zero_le, IC.v, Nat.reduceLeDiff, forall_const, mset_mset, not_true_eq_false, not_false_eq_true, cpow9, pow9, cpow18, pow18, cpow30, pow30, ex2, Bool.true_eq_false, Int.cast_ofNat_Int, Int.ofNat_eq_natCast, flatP_non, flatP_bl, flatP_int, flatP_str, flatP_tup, flatP_lst, flatP_dct, eqF_ss, eqF_ii, eqF_bb, zB_Add_i, zB_Sub_i, zB_Mult_i, zB_FloorDiv_i, zB_Mod_i, zB_Pow_i, zB_BitAnd_i, zB_BitOr_i, zB_Add_s, zB_Add_t, zB_Add_l, zB_Mul_l, zIx_tup, zIx_lst, zIx_rol, zIx_str, zIx_mset, zLen_tup, zLen_lst, zLen_rol, zLen_str, zLen_mset, zInt_i, zInt_b, zTuple_t, zTuple_l, zTuple_m, zMax_ii, zMin_ii, zNeg_i, zNotV_b, zAllAny_l, wL_mset, szl0, szl1, szl2, szl3, szl4, szl5, szl6, szl7, szl8, szl9, szl10, szl11, szl12, szl13, szl14, szl15, szl16, szl17, szl18, szl19, szl20, szl21, szl22, szl23, szl24, szl25, szl26, szl27, szl28, szl29, szl30, szl31, szl32, szl33, szl34, szl35, szl36, szl37, szl38, szl39, szl40, szl41, szl42, szl43, szl44, szl45, szl46, szl47, szl48, szl49, szl50, szl51, szl52, szl53, szl54, szl55, szl56, szl57, szl58, szl59, szl60, szl61, szl62, szl63, szl64, szl65, szl66, szl67, szl68, szl69, frzV_ref, zfrz, Option.map_some, Option.map_none, frzV_non, frzV_bl, frzV_int, frzV_str, frzV_tup, frzV_lst, frzV_rol, frzV_dct]
    case pos =>
      refine lc_map (fun x => .bl (decide (chOf x ∈ letters.cps.toList))) _ (fun x hx N R q => ?_) ?_
      · obtain ⟨c, _, rfl⟩ := List.mem_map.mp hx
        simp only [zsp, zSs, zS, zE, zEs, zT, zBoVs, zBoTs, zA, zIfs, zI, zO, zG, zGs, zsCons, zsNil, zsIf, zsRet, zsRetN, zsExpr, zsAsg, zsPar, zsFor, zsSet, zsSetL, zsPass, zsBreak, zsCont, zsFrz, zEnds, zstart, z1, z2, zVar, zGet, zCst, zChain_eq, onB_bl, tOf, zNotT, zBoT, zBoV, zIf, zNil, zCons, zTup, zPart, zNoPart, zSl, zSlL, zCB, zCBL, zBF, zLM, LM.ty, IC.pv, zAbs, zList, zIsi, zVal, zRng1, zRng2, zEnum, Zz.gNm, Zz.gNil, Zz.gCons, Zz.gTup, zCall, zMt, zAppend, zExtend, zInsert, zPop, zReverse, zRev, zDct0, zDctK, zDctT, zYes, zLc, zwipe, zCmp, zEq, zIs, isNonP, List.map_cons, List.map_nil, List.cons_append, List.nil_append, List.replicate_succ, List.replicate_zero, List.length_cons, List.length_nil, List.set_cons_zero, List.set_cons_succ, List.getElem?_cons_zero, List.getElem?_cons_succ, Option.join_some, Nat.reduceAdd, Nat.reduceSub, Nat.zero_add, isiB, Bool.not_eq_true', decide_eq_false_iff_not, decide_eq_true_eq,  tyP_non, isDct_non, rs_non, tyP_bl, isDct_bl, rs_bl, tyP_int, isDct_int, rs_int, tyP_str, isDct_str, rs_str, tyP_tup, isDct_tup, rs_tup, tyP_lst, isDct_lst, rs_lst, tyP_rol, isDct_rol, rs_rol, tyP_dct, isDct_dct, rs_dct, asL_lst, asL_rol, asS_lst, asS_rol, asS_tup, asW_lst, asT_tup, asL_mset, asS_mset, asW_mset, refL_mset, isDct_mset, tyP_mset, rs_mset, Option.some.injEq, exists_eq_left', true_and, and_true, Bool.not_true, Bool.not_false, Bool.false_eq_true, if_true, if_false, ite_true, ite_false, String.reduceBEq, Bool.or_false, Bool.or_true, Bool.false_or, Bool.true_or, Bool.and_false, Bool.and_true, Bool.true_and, Bool.false_and, reduceIte, PV.int.injEq, exists_const, PV.tup.injEq, PV.lst.injEq, PV.ref.injEq, PV.ty.injEq, zIn, List.all_cons, List.all_nil, List.any_cons, List.any_nil, atP_0, atP_1, atP_2, flat_ints, Zz.any_ints, Nat.zero_le, IC.v, Nat.reduceLeDiff, forall_const, mset_mset, not_true_eq_false, not_false_eq_true, cpow9, pow9, cpow18, pow18, cpow30, pow30, ex2, Bool.true_eq_false, Int.cast_ofNat_Int, Int.ofNat_eq_natCast, flatP_non, flatP_bl, flatP_int, flatP_str, flatP_tup, flatP_lst, flatP_dct, eqF_ss, eqF_ii, eqF_bb, zB_Add_i, zB_Sub_i, zB_Mult_i, zB_FloorDiv_i, zB_Mod_i, zB_Pow_i, zB_BitAnd_i, zB_BitOr_i, zB_Add_s, zB_Add_t, zB_Add_l, zB_Mul_l, zIx_tup, zIx_lst, zIx_rol, zIx_str, zIx_mset, zLen_tup, zLen_lst, zLen_rol, zLen_str, zLen_mset, zInt_i, zInt_b, zTuple_t, zTuple_l, zTuple_m, zMax_ii, zMin_ii, zNeg_i, zNotV_b, zAllAny_l, wL_mset, szl0, szl1, szl2, szl3, szl4, szl5, szl6, szl7, szl8, szl9, szl10, szl11, szl12, szl13, szl14, szl15, szl16, szl17, szl18, szl19, szl20, szl21, szl22, szl23, szl24, szl25, szl26, szl27, szl28, szl29, szl30, szl31, szl32, szl33, szl34, szl35, szl36, szl37, szl38, szl39, szl40, szl41, szl42, szl43, szl44, szl45, szl46, szl47, szl48, szl49, szl50, szl51, szl52, szl53, szl54, szl55, szl56, szl57, szl58, szl59, szl60, szl61, szl62, szl63, szl64, szl65, szl66, szl67, szl68, szl69, frzV_ref, zfrz, Option.map_some, Option.map_none, frzV_non, frzV_bl, frzV_int, frzV_str, frzV_tup, frzV_lst, frzV_rol, frzV_dct, zIn]
        exact ⟨c, rfl, q⟩
      · refine ⟨?_, s.cps.toList.map fun c => decide (c ∈ letters.cps.toList), ?_, ret_same ?_⟩
        · simp [chars]
          exact Nat.le_trans (Int.ofNat_le.mp h2) (by decide)
        · simp [chars, List.map_map, Function.comp_def, chOf_one] <;> intros <;> rfl
        · rw [all_id_map]
          have h1' : 1 ≤ s.length := by omega
          have h2' : s.length ≤ 8 := by omega
          simpa [isKey, h1', h2'] using q
    all_goals
      apply ret_same
      have h1' : decide (1 ≤ s.length) = decide (1 ≤ (s.length : Int)) := by simp; omega
      have h2' : decide (s.length ≤ 8) = decide ((s.length : Int) ≤ 8) := by simp; omega
      simpa [isKey, h1', h2', h1, h2] using q
  | _ =>
    simp only [ir_L_is_key, N_L_is_key, zsp, zSs, zS, zE, zEs, zT, zBoVs, zBoTs, zA, zIfs, zI, zO, zG, zGs, zsCons, zsNil, zsIf, zsRet, zsRetN, zsExpr, zsAsg, zsPar, zsFor, zsSet, zsSetL, zsPass, zsBreak, zsCont, zsFrz, zEnds, zstart, z1, z2, zVar, zGet, zCst, zChain_eq, onB_bl, tOf, zNotT, zBoT, zBoV, zIf, zNil, zCons, zTup, zPart, zNoPart, zSl, zSlL, zCB, zCBL, zBF, zLM, LM.ty, IC.pv, zAbs, zList, zIsi, zVal, zRng1, zRng2, zEnum, Zz.gNm, Zz.gNil, Zz.gCons, Zz.gTup, zCall, zMt, zAppend, zExtend, zInsert, zPop, zReverse, zRev, zDct0, zDctK, zDctT, zYes, zLc, zwipe, zCmp, zEq, zIs, isNonP, List.map_cons, List.map_nil, List.cons_append, List.nil_append, List.replicate_succ, List.replicate_zero, List.length_cons, List.length_nil, List.set_cons_zero, List.set_cons_succ, List.getElem?_cons_zero, List.getElem?_cons_succ, Option.join_some, Nat.reduceAdd, Nat.reduceSub, Nat.zero_add, isiB, Bool.not_eq_true', decide_eq_false_iff_not, decide_eq_true_eq,  tyP_non, isDct_non, rs_non, tyP_bl, isDct_bl, rs_bl, tyP_int, isDct_int, rs_int, tyP_str, isDct_str, rs_str, tyP_tup, isDct_tup, rs_tup, tyP_lst, isDct_lst, rs_lst, tyP_rol, isDct_rol, rs_rol, tyP_dct, isDct_dct, rs_dct, asL_lst, asL_rol, asS_lst, asS_rol, asS_tup, asW_lst, asT_tup, asL_mset, asS_mset, asW_mset, refL_mset, isDct_mset, tyP_mset, rs_mset, Option.some.injEq, exists_eq_left', true_and, and_true, Bool.not_true, Bool.not_false, Bool.false_eq_true, if_true, if_false, ite_true, ite_false, String.reduceBEq, Bool.or_false, Bool.or_true, Bool.false_or, Bool.true_or, Bool.and_false, Bool.and_true, Bool.true_and, Bool.false_and, reduceIte, PV.int.injEq, exists_const, PV.tup.injEq, PV.lst.injEq, PV.ref.injEq, PV.ty.injEq, zIn, List.all_cons, List.all_nil, List.any_cons, List.any_nil, atP_0, atP_1, atP_2, flat_ints, Zz.any_ints, Nat.zero_le, IC.v, Nat.reduceLeDiff, forall_const, mset_mset, not_true_eq_false, not_false_eq_true, cpow9, pow9, cpow18, pow18, cpow30, pow30, ex2, Bool.true_eq_false, Int.cast_ofNat_Int, Int.ofNat_eq_natCast, flatP_non, flatP_bl, flatP_int, flatP_str, flatP_tup, flatP_lst, flatP_dct, eqF_ss, eqF_ii, eqF_bb, zB_Add_i, zB_Sub_i, zB_Mult_i, zB_FloorDiv_i, zB_Mod_i, zB_Pow_i, zB_BitAnd_i, zB_BitOr_i, zB_Add_s, zB_Add_t, zB_Add_l, zB_Mul_l, zIx_tup, zIx_lst, zIx_rol, zIx_str, zIx_mset, zLen_tup, zLen_lst, zLen_rol, zLen_str, zLen_mset, zInt_i, zInt_b, zTuple_t, zTuple_l, zTuple_m, zMax_ii, zMin_ii, zNeg_i, zNotV_b, zAllAny_l, wL_mset, szl0, szl1, szl2, szl3, szl4, szl5, szl6, szl7, szl8, szl9, szl10, szl11, szl12, szl13, szl14, szl15, szl16, szl17, szl18, szl19, szl20, szl21, szl22, szl23, szl24, szl25, szl26, szl27, szl28, szl29, szl30, szl31, szl32, szl33, szl34, szl35, szl36, szl37, szl38, szl39, szl40, szl41, szl42, szl43, szl44, szl45, szl46, szl47, szl48, szl49, szl50, szl51, szl52, szl53, szl54, szl55, szl56, szl57, szl58, szl59, szl60, szl61, szl62, szl63, szl64, szl65, szl66, szl67, szl68, szl69, frzV_ref, zfrz, Option.map_some, Option.map_none, frzV_non, frzV_bl, frzV_int, frzV_str, frzV_tup, frzV_lst, frzV_rol, frzV_dct]
    first | (refine sp_L_whole E h ?_; simp only [isWhole, zsp, zSs, zS, zE, zEs, zT, zBoVs, zBoTs, zA, zIfs, zI, zO, zG, zGs, zsCons, zsNil, zsIf, zsRet, zsRetN, zsExpr, zsAsg, zsPar, zsFor, zsSet, zsSetL, zsPass, zsBreak, zsCont, zsFrz, zEnds, zstart, z1, z2, zVar, zGet, zCst, zChain_eq, onB_bl, tOf, zNotT, zBoT, zBoV, zIf, zNil, zCons, zTup, zPart, zNoPart, zSl, zSlL, zCB, zCBL, zBF, zLM, LM.ty, IC.pv, zAbs, zList, zIsi, zVal, zRng1, zRng2, zEnum, Zz.gNm, Zz.gNil, Zz.gCons, Zz.gTup, zCall, zMt, zAppend, zExtend, zInsert, zPop, zReverse, zRev, zDct0, zDctK, zDctT, zYes, zLc, zwipe, zCmp, zEq, zIs, isNonP, List.map_cons, List.map_nil, List.cons_append, List.nil_append, List.replicate_succ, List.replicate_zero, List.length_cons, List.length_nil, List.set_cons_zero, List.set_cons_succ, List.getElem?_cons_zero, List.getElem?_cons_succ, Option.join_some, Nat.reduceAdd, Nat.reduceSub, Nat.zero_add, isiB, Bool.not_eq_true', decide_eq_false_iff_not, decide_eq_true_eq,  tyP_non, isDct_non, rs_non, tyP_bl, isDct_bl, rs_bl, tyP_int, isDct_int, rs_int, tyP_str, isDct_str, rs_str, tyP_tup, isDct_tup, rs_tup, tyP_lst, isDct_lst, rs_lst, tyP_rol, isDct_rol, rs_rol, tyP_dct, isDct_dct, rs_dct, asL_lst, asL_rol, asS_lst, asS_rol, asS_tup, asW_lst, asT_tup, asL_mset, asS_mset, asW_mset, refL_mset, isDct_mset, tyP_mset, rs_mset, Option.some.injEq, exists_eq_left', true_and, and_true, Bool.not_true, Bool.not_false, Bool.false_eq_true, if_true, if_false, ite_true, ite_false, String.reduceBEq, Bool.or_false, Bool.or_true, Bool.false_or, Bool.true_or, Bool.and_false, Bool.and_true, Bool.true_and, Bool.false_and, reduceIte, PV.int.injEq, exists_const, PV.tup.injEq, PV.lst.injEq, PV.ref.injEq, PV.ty.injEq, zIn, List.all_cons, List.all_nil, List.any_cons, List.any_nil, atP_0, atP_1, atP_2, flat_ints, Zz.any_ints, Nat.zero_le, IC.v, Nat.reduceLeDiff, forall_const, mset_mset, not_true_eq_false, not_false_eq_true, cpow9, pow9, cpow18, pow18, cpow30, pow30, ex2, Bool.true_eq_false, Int.cast_ofNat_Int, Int.ofNat_eq_natCast, flatP_non, flatP_bl, flatP_int, flatP_str, flatP_tup, flatP_lst, flatP_dct, eqF_ss, eqF_ii, eqF_bb, zB_Add_i, zB_Sub_i, zB_Mult_i, zB_FloorDiv_i, zB_Mod_i, zB_Pow_i, zB_BitAnd_i, zB_BitOr_i, zB_Add_s, zB_Add_t, zB_Add_l, zB_Mul_l, zIx_tup, zIx_lst, zIx_rol, zIx_str, zIx_mset, zLen_tup, zLen_lst, zLen_rol, zLen_str, zLen_mset, zInt_i, zInt_b, zTuple_t, zTuple_l, zTuple_m, zMax_ii, zMin_ii, zNeg_i, zNotV_b, zAllAny_l, wL_mset, szl0, szl1, szl2, szl3, szl4, szl5, szl6, szl7, szl8, szl9, szl10, szl11, szl12, szl13, szl14, szl15, szl16, szl17, szl18, szl19, szl20, szl21, szl22, szl23, szl24, szl25, szl26, szl27, szl28, szl29, szl30, szl31, szl32, szl33, szl34, szl35, szl36, szl37, szl38, szl39, szl40, szl41, szl42, szl43, szl44, szl45, szl46, szl47, szl48, szl49, szl50, szl51, szl52, szl53, szl54, szl55, szl56, szl57, szl58, szl59, szl60, szl61, szl62, szl63, szl64, szl65, szl66, szl67, szl68, szl69, frzV_ref, zfrz, Option.map_some, Option.map_none, frzV_non, frzV_bl, frzV_int, frzV_str, frzV_tup, frzV_lst, frzV_rol, frzV_dct]; exact ret_same q) | (simp [pl] at h; done)
theorem sp_is_thing (h : pl x = true) (q : Q (.bl (isThing x)) M) : ZCall T (k + 3) "is_thing" [x] M Q X := by
  apply call_is_thing E rfl
  cases x with
  | tup ks =>
    simp only [ir_is_thing, N_is_thing, zsp, zSs, zS, zE, zEs, zT, zBoVs, zBoTs, zA, zIfs, zI, zO, zG, zGs, zsCons, zsNil, zsIf, zsRet, zsRetN, zsExpr, zsAsg, zsPar, zsFor, zsSet, zsSetL, zsPass, zsBreak, zsCont, zsFrz, zEnds, zstart, z1, z2, zVar, zGet, zCst, zChain_eq, onB_bl, tOf, zNotT, zBoT, zBoV, zIf, zNil, zCons, zTup, zPart, zNoPart, zSl, zSlL, zCB, zCBL, zBF, zLM, LM.ty, IC.pv, zAbs, zList, zIsi, zVal, zRng1, zRng2, zEnum, Zz.gNm, Zz.gNil, Zz.gCons, Zz.gTup, zCall, zMt, zAppend, zExtend, zInsert, zPop, zReverse, zRev, zDct0, zDctK, zDctT, zYes, zLc, zwipe, zCmp, zEq, zIs, isNonP, List.map_cons, List.map_nil, List.cons_append, List.nil_append, List.replicate_succ, List.replicate_zero, List.length_cons, List.length_nil, List.set_cons_zero, List.set_cons_succ, List.getElem?_cons_zero, List.getElem?_cons_succ, Option.join_some, Nat.reduceAdd, Nat.reduceSub, Nat.zero_add, isiB, Bool.not_eq_true', decide_eq_false_iff_not, decide_eq_true_eq,  tyP_non, isDct_non, rs_non, tyP_bl, isDct_bl, rs_bl, tyP_int, isDct_int, rs_int, tyP_str, isDct_str, rs_str, tyP_tup, isDct_tup, rs_tup, tyP_lst, isDct_lst, rs_lst, tyP_rol, isDct_rol, rs_rol, tyP_dct, isDct_dct, rs_dct, asL_lst, asL_rol, asS_lst, asS_rol, asS_tup, asW_lst, asT_tup, asL_mset, asS_mset, asW_mset, refL_mset, isDct_mset, tyP_mset, rs_mset, Option.some.injEq, exists_eq_left', true_and, and_true, Bool.not_true, Bool.not_false, Bool.false_eq_true, if_true, if_false, ite_true, ite_false, String.reduceBEq, Bool.or_false, Bool.or_true, Bool.false_or, Bool.true_or, Bool.and_false, Bool.and_true, Bool.true_and, Bool.false_and, reduceIte, PV.int.injEq, exists_const, PV.tup.injEq, PV.lst.injEq, PV.ref.injEq, PV.ty.injEq, zIn, List.all_cons, List.all_nil, List.any_cons, List.any_nil, atP_0, atP_1, atP_2, flat_ints, Zz.any_ints, Nat.zero_le, IC.v, Nat.reduceLeDiff, forall_const, mset_mset, not_true_eq_false, not_false_eq_true, cpow9, pow9, cpow18, pow18, cpow30, pow30, ex2, Bool.true_eq_false, Int.cast_ofNat_Int, Int.ofNat_eq_natCast, flatP_non, flatP_bl, flatP_int, flatP_str, flatP_tup, flatP_lst, flatP_dct, eqF_ss, eqF_ii, eqF_bb, zB_Add_i, zB_Sub_i, zB_Mult_i, zB_FloorDiv_i, zB_Mod_i, zB_Pow_i, zB_BitAnd_i, zB_BitOr_i, zB_Add_s, zB_Add_t, zB_Add_l, zB_Mul_l, zIx_tup, zIx_lst, zIx_rol, zIx_str, zIx_mset, zLen_tup, zLen_lst, zLen_rol, zLen_str, zLen_mset, zInt_i, zInt_b, zTuple_t, zTuple_l, zTuple_m, zMax_ii, zMin_ii, zNeg_i, zNotV_b, zAllAny_l, wL_mset, szl0, szl1, szl2, szl3, szl4, szl5, szl6, szl7, szl8, szl9, szl10, szl11, szl12, szl13, szl14, szl15, szl16, szl17, szl18, szl19, szl20, szl21, szl22, szl23, szl24, szl25, szl26, szl27, szl28, szl29, szl30, szl31, szl32, szl33, szl34, szl35, szl36, szl37, szl38, szl39, szl40, szl41, szl42, szl43, szl44, szl45, szl46, szl47, szl48, szl49, szl50, szl51, szl52, szl53, szl54, szl55, szl56, szl57, szl58, szl59, szl60, szl61, szl62, szl63, szl64, szl65, szl66, szl67, szl68, szl69, frzV_ref, zfrz, Option.map_some, Option.map_none, frzV_non, frzV_bl, frzV_int, frzV_str, frzV_tup, frzV_lst, frzV_rol, frzV_dct]
    by_cases h1 : 1 ≤ (ks.length : Int) <;> by_cases h2 : (ks.length : Int) ≤ 4 <;> simp only [h1, h2, zsp, zSs, zS, zE, zEs, zT, zBoVs, zBoTs, zA, zIfs, zI, zO, zG, zGs, zsCons, zsNil, zsIf, zsRet, zsRetN, zsExpr, zsAsg, zsPar, zsFor, zsSet, zsSetL, zsPass, zsBreak, zsCont, zsFrz, zEnds, zstart, z1, z2, zVar, zGet, zCst, zChain_eq, onB_bl, tOf, zNotT, zBoT, zBoV, zIf, zNil, zCons, zTup, zPart, zNoPart, zSl, zSlL, zCB, zCBL, zBF, zLM, LM.ty, IC.pv, zAbs, zList, zIsi, zVal, zRng1, zRng2, zEnum, Zz.gNm, Zz.gNil, Zz.gCons, Zz.gTup, zCall, zMt, zAppend, zExtend, zInsert, zPop, zReverse, zRev, zDct0, zDctK, zDctT, zYes, zLc, zwipe, zCmp, zEq, zIs, isNonP, List.map_cons, List.map_nil, List.cons_append, List.nil_append, List.replicate_succ, List.replicate_zero, List.length_cons, List.length_nil, List.set_cons_zero, List.set_cons_succ, List.getElem?_cons_zero, List.getElem?_cons_succ, Option.join_some, Nat.reduceAdd, Nat.reduceSub, Nat.zero_add, isiB, Bool.not_eq_true', decide_eq_false_iff_not, decide_eq_true_eq,  tyP_non, isDct_non, rs_non, tyP_bl, isDct_bl, rs_bl, tyP_int, isDct_int, rs_int, tyP_str, isDct_str, rs_str, tyP_tup, isDct_tup, rs_tup, tyP_lst, isDct_lst, rs_lst, tyP_rol, isDct_rol, rs_rol, tyP_dct, isDct_dct, rs_dct, asL_lst, asL_rol, asS_lst, asS_rol, asS_tup, asW_lst, asT_tup, asL_mset, asS_mset, asW_mset, refL_mset, isDct_mset, tyP_mset, rs_mset, Option.some.injEq, exists_eq_left', true_and, and_true, Bool.not_true, Bool.not_false, Bool.false_eq_true, if_true, if_false, ite_true, ite_false, String.reduceBEq, Bool.or_false, Bool.or_true, Bool.false_or, Bool.true_or, Bool.and_false, Bool.and_true, Bool.true_and, Bool.false_and, reduceIte, PV.int.injEq, exists_const, PV.tup.injEq, PV.lst.injEq, PV.ref.injEq, PV.ty.injEq, zIn, List.all_cons, List.all_nil, List.any_cons, List.any_nil, atP_0, atP_1, atP_2, flat_ints, Zz.any_ints, Nat.zero_le, IC.v, Nat.reduceLeDiff, forall_const, mset_mset, not_true_eq_false, not_false_eq_true, cpow9, pow9, cpow18, pow18, cpow30, pow30, ex2, Bool.true_eq_false, Int.cast_ofNat_Int, Int.ofNat_eq_natCast, flatP_non, flatP_bl, flatP_int, flatP_str, flatP_tup, flatP_lst, flatP_dct, eqF_ss, eqF_ii, eqF_bb, zB_Add_i, zB_Sub_i, zB_Mult_i, zB_FloorDiv_i, zB_Mod_i, zB_Pow_i, zB_BitAnd_i, zB_BitOr_i, zB_Add_s, zB_Add_t, zB_Add_l, zB_Mul_l, zIx_tup, zIx_lst, zIx_rol, zIx_str, zIx_mset, zLen_tup, zLen_lst, zLen_rol, zLen_str, zLen_mset, zInt_i, zInt_b, zTuple_t, zTuple_l, zTuple_m, zMax_ii, zMin_ii, zNeg_i, zNotV_b, zAllAny_l, wL_mset, szl0, szl1, szl2, szl3, szl4, szl5, szl6, szl7, szl8, szl9, szl10, szl11, szl12, szl13, szl14, szl15, szl16, szl17, szl18, szl19, szl20, szl21, szl22, szl23, szl24, szl25, szl26, szl27, szl28, szl29, szl30, szl31, szl32, szl33, szl34, szl35, szl36, szl37, szl38, szl39, szl40, szl41, szl42, szl43, szl44, szl45, szl46, szl47, szl48, szl49, szl50, szl51, szl52, szl53, szl54, szl55, szl56, szl57, szl58, szl59, szl60, szl61, szl62, szl63, szl64, szl65, szl66, szl67, szl68, szl69, frzV_ref, zfrz, Option.map_some, Option.map_none, frzV_non, frzV_bl, frzV_int, frzV_str, frzV_tup, frzV_lst, frzV_rol, frzV_dct]
    case pos =>
      refine lc_map (fun x => .bl (isKey x)) _ (fun x hx N R q => ?_) ?_
      · simp only [zsp, zSs, zS, zE, zEs, zT, zBoVs, zBoTs, zA, zIfs, zI, zO, zG, zGs, zsCons, zsNil, zsIf, zsRet, zsRetN, zsExpr, zsAsg, zsPar, zsFor, zsSet, zsSetL, zsPass, zsBreak, zsCont, zsFrz, zEnds, zstart, z1, z2, zVar, zGet, zCst, zChain_eq, onB_bl, tOf, zNotT, zBoT, zBoV, zIf, zNil, zCons, zTup, zPart, zNoPart, zSl, zSlL, zCB, zCBL, zBF, zLM, LM.ty, IC.pv, zAbs, zList, zIsi, zVal, zRng1, zRng2, zEnum, Zz.gNm, Zz.gNil, Zz.gCons, Zz.gTup, zCall, zMt, zAppend, zExtend, zInsert, zPop, zReverse, zRev, zDct0, zDctK, zDctT, zYes, zLc, zwipe, zCmp, zEq, zIs, isNonP, List.map_cons, List.map_nil, List.cons_append, List.nil_append, List.replicate_succ, List.replicate_zero, List.length_cons, List.length_nil, List.set_cons_zero, List.set_cons_succ, List.getElem?_cons_zero, List.getElem?_cons_succ, Option.join_some, Nat.reduceAdd, Nat.reduceSub, Nat.zero_add, isiB, Bool.not_eq_true', decide_eq_false_iff_not, decide_eq_true_eq,  tyP_non, isDct_non, rs_non, tyP_bl, isDct_bl, rs_bl, tyP_int, isDct_int, rs_int, tyP_str, isDct_str, rs_str, tyP_tup, isDct_tup, rs_tup, tyP_lst, isDct_lst, rs_lst, tyP_rol, isDct_rol, rs_rol, tyP_dct, isDct_dct, rs_dct, asL_lst, asL_rol, asS_lst, asS_rol, asS_tup, asW_lst, asT_tup, asL_mset, asS_mset, asW_mset, refL_mset, isDct_mset, tyP_mset, rs_mset, Option.some.injEq, exists_eq_left', true_and, and_true, Bool.not_true, Bool.not_false, Bool.false_eq_true, if_true, if_false, ite_true, ite_false, String.reduceBEq, Bool.or_false, Bool.or_true, Bool.false_or, Bool.true_or, Bool.and_false, Bool.and_true, Bool.true_and, Bool.false_and, reduceIte, PV.int.injEq, exists_const, PV.tup.injEq, PV.lst.injEq, PV.ref.injEq, PV.ty.injEq, zIn, List.all_cons, List.all_nil, List.any_cons, List.any_nil, atP_0, atP_1, atP_2, flat_ints, Zz.any_ints, Nat.zero_le, IC.v, Nat.reduceLeDiff, forall_const, mset_mset, not_true_eq_false, not_false_eq_true, cpow9, pow9, cpow18, pow18, cpow30, pow30, ex2, Bool.true_eq_false, Int.cast_ofNat_Int, Int.ofNat_eq_natCast, flatP_non, flatP_bl, flatP_int, flatP_str, flatP_tup, flatP_lst, flatP_dct, eqF_ss, eqF_ii, eqF_bb, zB_Add_i, zB_Sub_i, zB_Mult_i, zB_FloorDiv_i, zB_Mod_i, zB_Pow_i, zB_BitAnd_i, zB_BitOr_i, zB_Add_s, zB_Add_t, zB_Add_l, zB_Mul_l, zIx_tup, zIx_lst, zIx_rol, zIx_str, zIx_mset, zLen_tup, zLen_lst, zLen_rol, zLen_str, zLen_mset, zInt_i, zInt_b, zTuple_t, zTuple_l, zTuple_m, zMax_ii, zMin_ii, zNeg_i, zNotV_b, zAllAny_l, wL_mset, szl0, szl1, szl2, szl3, szl4, szl5, szl6, szl7, szl8, szl9, szl10, szl11, szl12, szl13, szl14, szl15, szl16, szl17, szl18, szl19, szl20, szl21, szl22, szl23, szl24, szl25, szl26, szl27, szl28, szl29, szl30, szl31, szl32, szl33, szl34, szl35, szl36, szl37, szl38, szl39, szl40, szl41, szl42, szl43, szl44, szl45, szl46, szl47, szl48, szl49, szl50, szl51, szl52, szl53, szl54, szl55, szl56, szl57, szl58, szl59, szl60, szl61, szl62, szl63, szl64, szl65, szl66, szl67, szl68, szl69, frzV_ref, zfrz, Option.map_some, Option.map_none, frzV_non, frzV_bl, frzV_int, frzV_str, frzV_tup, frzV_lst, frzV_rol, frzV_dct]
        exact sp_is_key E (pls_mem h x hx) q
      · refine ⟨?_, ks.map isKey, ?_, ret_same ?_⟩
        · rw [List.length_map]
          exact Nat.le_trans (Int.ofNat_le.mp h2) (by decide)
        · rw [List.map_map]; rfl
        · rw [all_id_map]
          have h1' : 1 ≤ ks.length := by omega
          have h2' : ks.length ≤ 4 := by omega
          simpa [isThing, h1', h2'] using q
    all_goals
      apply ret_same
      have h1' : decide (1 ≤ ks.length) = decide (1 ≤ (ks.length : Int)) := by simp; omega
      have h2' : decide (ks.length ≤ 4) = decide ((ks.length : Int) ≤ 4) := by simp; omega
      simpa [isThing, h1', h1, h2', h2] using q
  | _ =>
    simp only [ir_is_thing, N_is_thing, zsp, zSs, zS, zE, zEs, zT, zBoVs, zBoTs, zA, zIfs, zI, zO, zG, zGs, zsCons, zsNil, zsIf, zsRet, zsRetN, zsExpr, zsAsg, zsPar, zsFor, zsSet, zsSetL, zsPass, zsBreak, zsCont, zsFrz, zEnds, zstart, z1, z2, zVar, zGet, zCst, zChain_eq, onB_bl, tOf, zNotT, zBoT, zBoV, zIf, zNil, zCons, zTup, zPart, zNoPart, zSl, zSlL, zCB, zCBL, zBF, zLM, LM.ty, IC.pv, zAbs, zList, zIsi, zVal, zRng1, zRng2, zEnum, Zz.gNm, Zz.gNil, Zz.gCons, Zz.gTup, zCall, zMt, zAppend, zExtend, zInsert, zPop, zReverse, zRev, zDct0, zDctK, zDctT, zYes, zLc, zwipe, zCmp, zEq, zIs, isNonP, List.map_cons, List.map_nil, List.cons_append, List.nil_append, List.replicate_succ, List.replicate_zero, List.length_cons, List.length_nil, List.set_cons_zero, List.set_cons_succ, List.getElem?_cons_zero, List.getElem?_cons_succ, Option.join_some, Nat.reduceAdd, Nat.reduceSub, Nat.zero_add, isiB, Bool.not_eq_true', decide_eq_false_iff_not, decide_eq_true_eq,  tyP_non, isDct_non, rs_non, tyP_bl, isDct_bl, rs_bl, tyP_int, isDct_int, rs_int, tyP_str, isDct_str, rs_str, tyP_tup, isDct_tup, rs_tup, tyP_lst, isDct_lst, rs_lst, tyP_rol, isDct_rol, rs_rol, tyP_dct, isDct_dct, rs_dct, asL_lst, asL_rol, asS_lst, asS_rol, asS_tup, asW_lst, asT_tup, asL_mset, asS_mset, asW_mset, refL_mset, isDct_mset, tyP_mset, rs_mset, Option.some.injEq, exists_eq_left', true_and, and_true, Bool.not_true, Bool.not_false, Bool.false_eq_true, if_true, if_false, ite_true, ite_false, String.reduceBEq, Bool.or_false, Bool.or_true, Bool.false_or, Bool.true_or, Bool.and_false, Bool.and_true, Bool.true_and, Bool.false_and, reduceIte, PV.int.injEq, exists_const, PV.tup.injEq, PV.lst.injEq, PV.ref.injEq, PV.ty.injEq, zIn, List.all_cons, List.all_nil, List.any_cons, List.any_nil, atP_0, atP_1, atP_2, flat_ints, Zz.any_ints, Nat.zero_le, IC.v, Nat.reduceLeDiff, forall_const, mset_mset, not_true_eq_false, not_false_eq_true, cpow9, pow9, cpow18, pow18, cpow30, pow30, ex2, Bool.true_eq_false, Int.cast_ofNat_Int, Int.ofNat_eq_natCast, flatP_non, flatP_bl, flatP_int, flatP_str, flatP_tup, flatP_lst, flatP_dct, eqF_ss, eqF_ii, eqF_bb, zB_Add_i, zB_Sub_i, zB_Mult_i, zB_FloorDiv_i, zB_Mod_i, zB_Pow_i, zB_BitAnd_i, zB_BitOr_i, zB_Add_s, zB_Add_t, zB_Add_l, zB_Mul_l, zIx_tup, zIx_lst, zIx_rol, zIx_str, zIx_mset, zLen_tup, zLen_lst, zLen_rol, zLen_str, zLen_mset, zInt_i, zInt_b, zTuple_t, zTuple_l, zTuple_m, zMax_ii, zMin_ii, zNeg_i, zNotV_b, zAllAny_l, wL_mset, szl0, szl1, szl2, szl3, szl4, szl5, szl6, szl7, szl8, szl9, szl10, szl11, szl12, szl13, szl14, szl15, szl16, szl17, szl18, szl19, szl20, szl21, szl22, szl23, szl24, szl25, szl26, szl27, szl28, szl29, szl30, szl31, szl32, szl33, szl34, szl35, szl36, szl37, szl38, szl39, szl40, szl41, szl42, szl43, szl44, szl45, szl46, szl47, szl48, szl49, szl50, szl51, szl52, szl53, szl54, szl55, szl56, szl57, szl58, szl59, szl60, szl61, szl62, szl63, szl64, szl65, szl66, szl67, szl68, szl69, frzV_ref, zfrz, Option.map_some, Option.map_none, frzV_non, frzV_bl, frzV_int, frzV_str, frzV_tup, frzV_lst, frzV_rol, frzV_dct]
    first | exact ret_same q | (simp [pl] at h; done)
theorem sp_L_is_thing (h : pl x = true) (q : Q (.bl (isThing x)) M) : ZCall T (k + 3) "_law_is_thing" [x] M Q X := by
  apply call_L_is_thing E rfl
  cases x with
  | tup ks =>
    simp only [ir_L_is_thing, N_L_is_thing, zsp, zSs, zS, zE, zEs, zT, zBoVs, zBoTs, zA, zIfs, zI, zO, zG, zGs, zsCons, zsNil, zsIf, zsRet, zsRetN, zsExpr, zsAsg, zsPar, zsFor, zsSet, zsSetL, zsPass, zsBreak, zsCont, zsFrz, zEnds, zstart, z1, z2, zVar, zGet, zCst, zChain_eq, onB_bl, tOf, zNotT, zBoT, zBoV, zIf, zNil, zCons, zTup, zPart, zNoPart, zSl, zSlL, zCB, zCBL, zBF, zLM, LM.ty, IC.pv, zAbs, zList, zIsi, zVal, zRng1, zRng2, zEnum, Zz.gNm, Zz.gNil, Zz.gCons, Zz.gTup, zCall, zMt, zAppend, zExtend, zInsert, zPop, zReverse, zRev, zDct0, zDctK, zDctT, zYes, zLc, zwipe, zCmp, zEq, zIs, isNonP, List.map_cons, List.map_nil, List.cons_append, List.nil_append, List.replicate_succ, List.replicate_zero, List.length_cons, List.length_nil, List.set_cons_zero, List.set_cons_succ, List.getElem?_cons_zero, List.getElem?_cons_succ, Option.join_some, Nat.reduceAdd, Nat.reduceSub, Nat.zero_add, isiB, Bool.not_eq_true', decide_eq_false_iff_not, decide_eq_true_eq,  tyP_non, isDct_non, rs_non, tyP_bl, isDct_bl, rs_bl, tyP_int, isDct_int, rs_int, tyP_str, isDct_str, rs_str, tyP_tup, isDct_tup, rs_tup, tyP_lst, isDct_lst, rs_lst, tyP_rol, isDct_rol, rs_rol, tyP_dct, isDct_dct, rs_dct, asL_lst, asL_rol, asS_lst, asS_rol, asS_tup, asW_lst, asT_tup, asL_mset, asS_mset, asW_mset, refL_mset, isDct_mset, tyP_mset, rs_mset, Option.some.injEq, exists_eq_left', true_and, and_true, Bool.not_true, Bool.not_false, Bool.false_eq_true, if_true, if_false, ite_true, ite_false, String.reduceBEq, Bool.or_false, Bool.or_true, Bool.false_or, Bool.true_or, Bool.and_false, Bool.and_true, Bool.true_and, Bool.false_and, reduceIte, PV.int.injEq, exists_const, PV.tup.injEq, PV.lst.injEq, PV.ref.injEq, PV.ty.injEq, zIn, List.all_cons, List.all_nil, List.any_cons, List.any_nil, atP_0, atP_1, atP_2, flat_ints, Zz.any_ints, Nat.zero_le, IC.v, Nat.reduceLeDiff, forall_const, mset_mset, not_true_eq_false, not_false_eq_true, cpow9, pow9, cpow18, pow18, cpow30, pow30, ex2, Bool.true_eq_false, Int.cast_ofNat_Int, Int.ofNat_eq_natCast, flatP_non, flatP_bl, flatP_int, flatP_str, flatP_tup, flatP_lst, flatP_dct, eqF_ss, eqF_ii, eqF_bb, zB_Add_i, zB_Sub_i, zB_Mult_i, zB_FloorDiv_i, zB_Mod_i, zB_Pow_i, zB_BitAnd_i, zB_BitOr_i, zB_Add_s, zB_Add_t, zB_Add_l, zB_Mul_l, zIx_tup, zIx_lst, zIx_rol, zIx_str, zIx_mset, zLen_tup, zLen_lst, zLen_rol, zLen_str, zLen_mset, zInt_i, zInt_b, zTuple_t, zTuple_l, zTuple_m, zMax_ii, zMin_ii, zNeg_i, zNotV_b, zAllAny_l, wL_mset, szl0, szl1, szl2, szl3, szl4, szl5, szl6, szl7, szl8, szl9, szl10, szl11, szl12, szl13, szl14, szl15, szl16, szl17, szl18, szl19, szl20, szl21, szl22, szl23, szl24, szl25, szl26, szl27, szl28, szl29, szl30, szl31, szl32, szl33, szl34, szl35, szl36, szl37, szl38, szl39, szl40, szl41, szl42, szl43, szl44, szl45, szl46, szl47, szl48, szl49, szl50, szl51, szl52, szl53, szl54, szl55, szl56, szl57, szl58, szl59, szl60, szl61, szl62, szl63, szl64, szl65, szl66, szl67, szl68, szl69, frzV_ref, zfrz, Option.map_some, Option.map_none, frzV_non, frzV_bl, frzV_int, frzV_str, frzV_tup, frzV_lst, frzV_rol, frzV_dct]
    by_cases h1 : 1 ≤ (ks.length : Int) <;> by_cases h2 : (ks.length : Int) ≤ 4 <;> simp only [h1, h2, zsp, zSs, zS, zE, zEs, zT, zBoVs, zBoTs, zA, zIfs, zI, zO, zG, zGs, zsCons, zsNil, zsIf, zsRet, zsRetN, zsExpr, zsAsg, zsPar, zsFor, zsSet, zsSetL, zsPass, zsBreak, zsCont, zsFrz, zEnds, zstart, z1, z2, zVar, zGet, zCst, zChain_eq, onB_bl, tOf, zNotT, zBoT, zBoV, zIf, zNil, zCons, zTup, zPart, zNoPart, zSl, zSlL, zCB, zCBL, zBF, zLM, LM.ty, IC.pv, zAbs, zList, zIsi, zVal, zRng1, zRng2, zEnum, Zz.gNm, Zz.gNil, Zz.gCons, Zz.gTup, zCall, zMt, zAppend, zExtend, zInsert, zPop, zReverse, zRev, zDct0, zDctK, zDctT, zYes, zLc, zwipe, zCmp, zEq, zIs, isNonP, List.map_cons, List.map_nil, List.cons_append, List.nil_append, List.replicate_succ, List.replicate_zero, List.length_cons, List.length_nil, List.set_cons_zero, List.set_cons_succ, List.getElem?_cons_zero, List.getElem?_cons_succ, Option.join_some, Nat.reduceAdd, Nat.reduceSub, Nat.zero_add, isiB, Bool.not_eq_true', decide_eq_false_iff_not, decide_eq_true_eq,  tyP_non, isDct_non, rs_non, tyP_bl, isDct_bl, rs_bl, tyP_int, isDct_int, rs_int, tyP_str, isDct_str, rs_str, tyP_tup, isDct_tup, rs_tup, tyP_lst, isDct_lst, rs_lst, tyP_rol, isDct_rol, rs_rol, tyP_dct, isDct_dct, rs_dct, asL_lst, asL_rol, asS_lst, asS_rol, asS_tup, asW_lst, asT_tup, asL_mset, asS_mset, asW_mset, refL_mset, isDct_mset, tyP_mset, rs_mset, Option.some.injEq, exists_eq_left', true_and, and_true, Bool.not_true, Bool.not_false, Bool.false_eq_true, if_true, if_false, ite_true, ite_false, String.reduceBEq, Bool.or_false, Bool.or_true, Bool.false_or, Bool.true_or, Bool.and_false, Bool.and_true, Bool.true_and, Bool.false_and, reduceIte, PV.int.injEq, exists_const, PV.tup.injEq, PV.lst.injEq, PV.ref.injEq, PV.ty.injEq, zIn, List.all_cons, List.all_nil, List.any_cons, List.any_nil, atP_0, atP_1, atP_2, flat_ints, Zz.any_ints, Nat.zero_le, IC.v, Nat.reduceLeDiff, forall_const, mset_mset, not_true_eq_false, not_false_eq_true, cpow9, pow9, cpow18, pow18, cpow30, pow30, ex2, Bool.true_eq_false, Int.cast_ofNat_Int, Int.ofNat_eq_natCast, flatP_non, flatP_bl, flatP_int, flatP_str, flatP_tup, flatP_lst, flatP_dct, eqF_ss, eqF_ii, eqF_bb, zB_Add_i, zB_Sub_i, zB_Mult_i, zB_FloorDiv_i, zB_Mod_i, zB_Pow_i, zB_BitAnd_i, zB_BitOr_i, zB_Add_s, zB_Add_t, zB_Add_l, zB_Mul_l, zIx_tup, zIx_lst, zIx_rol, zIx_str, zIx_mset, zLen_tup, zLen_lst, zLen_rol, zLen_str, zLen_mset, zInt_i, zInt_b, zTuple_t, zTuple_l, zTuple_m, zMax_ii, zMin_ii, zNeg_i, zNotV_b, zAllAny_l, wL_mset, szl0, szl1, szl2, szl3, szl4, szl5, szl6, szl7, szl8, szl9, szl10, szl11, szl12, szl13, szl14, szl15, szl16, szl17, szl18, szl19, szl20, szl21, szl22, szl23, szl24, szl25, szl26, szl27, szl28, szl29, szl30, szl31, szl32, szl33, szl34, szl35, szl36, szl37, szl38, szl39, szl40, szl41, szl42, szl43, szl44, szl45, szl46, szl47, szl48, szl49, szl50, szl51, szl52, szl53, szl54, szl55, szl56, szl57, szl58, szl59, szl60, szl61, szl62, szl63, szl64, szl65, szl66, szl67, szl68, szl69, frzV_ref, zfrz, Option.map_some, Option.map_none, frzV_non, frzV_bl, frzV_int, frzV_str, frzV_tup, frzV_lst, frzV_rol, frzV_dct]
    case pos =>
      refine lc_map (fun x => .bl (isKey x)) _ (fun x hx N R q => ?_) ?_
      · simp only [zsp, zSs, zS, zE, zEs, zT, zBoVs, zBoTs, zA, zIfs, zI, zO, zG, zGs, zsCons, zsNil, zsIf, zsRet, zsRetN, zsExpr, zsAsg, zsPar, zsFor, zsSet, zsSetL, zsPass, zsBreak, zsCont, zsFrz, zEnds, zstart, z1, z2, zVar, zGet, zCst, zChain_eq, onB_bl, tOf, zNotT, zBoT, zBoV, zIf, zNil, zCons, zTup, zPart, zNoPart, zSl, zSlL, zCB, zCBL, zBF, zLM, LM.ty, IC.pv, zAbs, zList, zIsi, zVal, zRng1, zRng2, zEnum, Zz.gNm, Zz.gNil, Zz.gCons, Zz.gTup, zCall, zMt, zAppend, zExtend, zInsert, zPop, zReverse, zRev, zDct0, zDctK, zDctT, zYes, zLc, zwipe, zCmp, zEq, zIs, isNonP, List.map_cons, List.map_nil, List.cons_append, List.nil_append, List.replicate_succ, List.replicate_zero, List.length_cons, List.length_nil, List.set_cons_zero, List.set_cons_succ, List.getElem?_cons_zero, List.getElem?_cons_succ, Option.join_some, Nat.reduceAdd, Nat.reduceSub, Nat.zero_add, isiB, Bool.not_eq_true', decide_eq_false_iff_not, decide_eq_true_eq,  tyP_non, isDct_non, rs_non, tyP_bl, isDct_bl, rs_bl, tyP_int, isDct_int, rs_int, tyP_str, isDct_str, rs_str, tyP_tup, isDct_tup, rs_tup, tyP_lst, isDct_lst, rs_lst, tyP_rol, isDct_rol, rs_rol, tyP_dct, isDct_dct, rs_dct, asL_lst, asL_rol, asS_lst, asS_rol, asS_tup, asW_lst, asT_tup, asL_mset, asS_mset, asW_mset, refL_mset, isDct_mset, tyP_mset, rs_mset, Option.some.injEq, exists_eq_left', true_and, and_true, Bool.not_true, Bool.not_false, Bool.false_eq_true, if_true, if_false, ite_true, ite_false, String.reduceBEq, Bool.or_false, Bool.or_true, Bool.false_or, Bool.true_or, Bool.and_false, Bool.and_true, Bool.true_and, Bool.false_and, reduceIte, PV.int.injEq, exists_const, PV.tup.injEq, PV.lst.injEq, PV.ref.injEq, PV.ty.injEq, zIn, List.all_cons, List.all_nil, List.any_cons, List.any_nil, atP_0, atP_1, atP_2, flat_ints, Zz.any_ints, Nat.zero_le, IC.v, Nat.reduceLeDiff, forall_const, mset_mset, not_true_eq_false, not_false_eq_true, cpow9, pow9, cpow18, pow18, cpow30, pow30, ex2, Bool.true_eq_false, Int.cast_ofNat_Int, Int.ofNat_eq_natCast, flatP_non, flatP_bl, flatP_int, flatP_str, flatP_tup, flatP_lst, flatP_dct, eqF_ss, eqF_ii, eqF_bb, zB_Add_i, zB_Sub_i, zB_Mult_i, zB_FloorDiv_i, zB_Mod_i, zB_Pow_i, zB_BitAnd_i, zB_BitOr_i, zB_Add_s, zB_Add_t, zB_Add_l, zB_Mul_l, zIx_tup, zIx_lst, zIx_rol, zIx_str, zIx_mset, zLen_tup, zLen_lst, zLen_rol, zLen_str, zLen_mset, zInt_i, zInt_b, zTuple_t, zTuple_l, zTuple_m, zMax_ii, zMin_ii, zNeg_i, zNotV_b, zAllAny_l, wL_mset, szl0, szl1, szl2, szl3, szl4, szl5, szl6, szl7, szl8, szl9, szl10, szl11, szl12, szl13, szl14, szl15, szl16, szl17, szl18, szl19, szl20, szl21, szl22, szl23, szl24, szl25, szl26, szl27, szl28, szl29, szl30, szl31, szl32, szl33, szl34, szl35, szl36, szl37, szl38, szl39, szl40, szl41, szl42, szl43, szl44, szl45, szl46, szl47, szl48, szl49, szl50, szl51, szl52, szl53, szl54, szl55, szl56, szl57, szl58, szl59, szl60, szl61, szl62, szl63, szl64, szl65, szl66, szl67, szl68, szl69, frzV_ref, zfrz, Option.map_some, Option.map_none, frzV_non, frzV_bl, frzV_int, frzV_str, frzV_tup, frzV_lst, frzV_rol, frzV_dct]
        exact sp_L_is_key E (pls_mem h x hx) q
      · refine ⟨?_, ks.map isKey, ?_, ret_same ?_⟩
        · rw [List.length_map]
          exact Nat.le_trans (Int.ofNat_le.mp h2) (by decide)
        · rw [List.map_map]; rfl
        · rw [all_id_map]
          have h1' : 1 ≤ ks.length := by omega
          have h2' : ks.length ≤ 4 := by omega
          simpa [isThing, h1', h2'] using q
    all_goals
      apply ret_same
      have h1' : decide (1 ≤ ks.length) = decide (1 ≤ (ks.length : Int)) := by simp; omega
      have h2' : decide (ks.length ≤ 4) = decide ((ks.length : Int) ≤ 4) := by simp; omega
      simpa [isThing, h1', h1, h2', h2] using q
  | _ =>
    simp only [ir_L_is_thing, N_L_is_thing, zsp, zSs, zS, zE, zEs, zT, zBoVs, zBoTs, zA, zIfs, zI, zO, zG, zGs, zsCons, zsNil, zsIf, zsRet, zsRetN, zsExpr, zsAsg, zsPar, zsFor, zsSet, zsSetL, zsPass, zsBreak, zsCont, zsFrz, zEnds, zstart, z1, z2, zVar, zGet, zCst, zChain_eq, onB_bl, tOf, zNotT, zBoT, zBoV, zIf, zNil, zCons, zTup, zPart, zNoPart, zSl, zSlL, zCB, zCBL, zBF, zLM, LM.ty, IC.pv, zAbs, zList, zIsi, zVal, zRng1, zRng2, zEnum, Zz.gNm, Zz.gNil, Zz.gCons, Zz.gTup, zCall, zMt, zAppend, zExtend, zInsert, zPop, zReverse, zRev, zDct0, zDctK, zDctT, zYes, zLc, zwipe, zCmp, zEq, zIs, isNonP, List.map_cons, List.map_nil, List.cons_append, List.nil_append, List.replicate_succ, List.replicate_zero, List.length_cons, List.length_nil, List.set_cons_zero, List.set_cons_succ, List.getElem?_cons_zero, List.getElem?_cons_succ, Option.join_some, Nat.reduceAdd, Nat.reduceSub, Nat.zero_add, isiB, Bool.not_eq_true', decide_eq_false_iff_not, decide_eq_true_eq,  tyP_non, isDct_non, rs_non, tyP_bl, isDct_bl, rs_bl, tyP_int, isDct_int, rs_int, tyP_str, isDct_str, rs_str, tyP_tup, isDct_tup, rs_tup, tyP_lst, isDct_lst, rs_lst, tyP_rol, isDct_rol, rs_rol, tyP_dct, isDct_dct, rs_dct, asL_lst, asL_rol, asS_lst, asS_rol, asS_tup, asW_lst, asT_tup, asL_mset, asS_mset, asW_mset, refL_mset, isDct_mset, tyP_mset, rs_mset, Option.some.injEq, exists_eq_left', true_and, and_true, Bool.not_true, Bool.not_false, Bool.false_eq_true, if_true, if_false, ite_true, ite_false, String.reduceBEq, Bool.or_false, Bool.or_true, Bool.false_or, Bool.true_or, Bool.and_false, Bool.and_true, Bool.true_and, Bool.false_and, reduceIte, PV.int.injEq, exists_const, PV.tup.injEq, PV.lst.injEq, PV.ref.injEq, PV.ty.injEq, zIn, List.all_cons, List.all_nil, List.any_cons, List.any_nil, atP_0, atP_1, atP_2, flat_ints, Zz.any_ints, Nat.zero_le, IC.v, Nat.reduceLeDiff, forall_const, mset_mset, not_true_eq_false, not_false_eq_true, cpow9, pow9, cpow18, pow18, cpow30, pow30, ex2, Bool.true_eq_false, Int.cast_ofNat_Int, Int.ofNat_eq_natCast, flatP_non, flatP_bl, flatP_int, flatP_str, flatP_tup, flatP_lst, flatP_dct, eqF_ss, eqF_ii, eqF_bb, zB_Add_i, zB_Sub_i, zB_Mult_i, zB_FloorDiv_i, zB_Mod_i, zB_Pow_i, zB_BitAnd_i, zB_BitOr_i, zB_Add_s, zB_Add_t, zB_Add_l, zB_Mul_l, zIx_tup, zIx_lst, zIx_rol, zIx_str, zIx_mset, zLen_tup, zLen_lst, zLen_rol, zLen_str, zLen_mset, zInt_i, zInt_b, zTuple_t, zTuple_l, zTuple_m, zMax_ii, zMin_ii, zNeg_i, zNotV_b, zAllAny_l, wL_mset, szl0, szl1, szl2, szl3, szl4, szl5, szl6, szl7, szl8, szl9, szl10, szl11, szl12, szl13, szl14, szl15, szl16, szl17, szl18, szl19, szl20, szl21, szl22, szl23, szl24, szl25, szl26, szl27, szl28, szl29, szl30, szl31, szl32, szl33, szl34, szl35, szl36, szl37, szl38, szl39, szl40, szl41, szl42, szl43, szl44, szl45, szl46, szl47, szl48, szl49, szl50, szl51, szl52, szl53, szl54, szl55, szl56, szl57, szl58, szl59, szl60, szl61, szl62, szl63, szl64, szl65, szl66, szl67, szl68, szl69, frzV_ref, zfrz, Option.map_some, Option.map_none, frzV_non, frzV_bl, frzV_int, frzV_str, frzV_tup, frzV_lst, frzV_rol, frzV_dct]
    first | exact ret_same q | (simp [pl] at h; done)
theorem sp_is_row (h : pl x = true) (q : Q (.bl (isRow x)) M) : ZCall T (k + 4) "is_row" [x] M Q X := by
  apply call_is_row E rfl
  cases x with
  | tup ks =>
    simp only [ir_is_row, N_is_row, zsp, zSs, zS, zE, zEs, zT, zBoVs, zBoTs, zA, zIfs, zI, zO, zG, zGs, zsCons, zsNil, zsIf, zsRet, zsRetN, zsExpr, zsAsg, zsPar, zsFor, zsSet, zsSetL, zsPass, zsBreak, zsCont, zsFrz, zEnds, zstart, z1, z2, zVar, zGet, zCst, zChain_eq, onB_bl, tOf, zNotT, zBoT, zBoV, zIf, zNil, zCons, zTup, zPart, zNoPart, zSl, zSlL, zCB, zCBL, zBF, zLM, LM.ty, IC.pv, zAbs, zList, zIsi, zVal, zRng1, zRng2, zEnum, Zz.gNm, Zz.gNil, Zz.gCons, Zz.gTup, zCall, zMt, zAppend, zExtend, zInsert, zPop, zReverse, zRev, zDct0, zDctK, zDctT, zYes, zLc, zwipe, zCmp, zEq, zIs, isNonP, List.map_cons, List.map_nil, List.cons_append, List.nil_append, List.replicate_succ, List.replicate_zero, List.length_cons, List.length_nil, List.set_cons_zero, List.set_cons_succ, List.getElem?_cons_zero, List.getElem?_cons_succ, Option.join_some, Nat.reduceAdd, Nat.reduceSub, Nat.zero_add, isiB, Bool.not_eq_true', decide_eq_false_iff_not, decide_eq_true_eq,  tyP_non, isDct_non, rs_non, tyP_bl, isDct_bl, rs_bl, tyP_int, isDct_int, rs_int, tyP_str, isDct_str, rs_str, tyP_tup, isDct_tup, rs_tup, tyP_lst, isDct_lst, rs_lst, tyP_rol, isDct_rol, rs_rol, tyP_dct, isDct_dct, rs_dct, asL_lst, asL_rol, asS_lst, asS_rol, asS_tup, asW_lst, asT_tup, asL_mset, asS_mset, asW_mset, refL_mset, isDct_mset, tyP_mset, rs_mset, Option.some.injEq, exists_eq_left', true_and, and_true, Bool.not_true, Bool.not_false, Bool.false_eq_true, if_true, if_false, ite_true, ite_false, String.reduceBEq, Bool.or_false, Bool.or_true, Bool.false_or, Bool.true_or, Bool.and_false, Bool.and_true, Bool.true_and, Bool.false_and, reduceIte, PV.int.injEq, exists_const, PV.tup.injEq, PV.lst.injEq, PV.ref.injEq, PV.ty.injEq, zIn, List.all_cons, List.all_nil, List.any_cons, List.any_nil, atP_0, atP_1, atP_2, flat_ints, Zz.any_ints, Nat.zero_le, IC.v, Nat.reduceLeDiff, forall_const, mset_mset, not_true_eq_false, not_false_eq_true, cpow9, pow9, cpow18, pow18, cpow30, pow30, ex2, Bool.true_eq_false, Int.cast_ofNat_Int, Int.ofNat_eq_natCast, flatP_non, flatP_bl, flatP_int, flatP_str, flatP_tup, flatP_lst, flatP_dct, eqF_ss, eqF_ii, eqF_bb, zB_Add_i, zB_Sub_i, zB_Mult_i, zB_FloorDiv_i, zB_Mod_i, zB_Pow_i, zB_BitAnd_i, zB_BitOr_i, zB_Add_s, zB_Add_t, zB_Add_l, zB_Mul_l, zIx_tup, zIx_lst, zIx_rol, zIx_str, zIx_mset, zLen_tup, zLen_lst, zLen_rol, zLen_str, zLen_mset, zInt_i, zInt_b, zTuple_t, zTuple_l, zTuple_m, zMax_ii, zMin_ii, zNeg_i, zNotV_b, zAllAny_l, wL_mset, szl0, szl1, szl2, szl3, szl4, szl5, szl6, szl7, szl8, szl9, szl10, szl11, szl12, szl13, szl14, szl15, szl16, szl17, szl18, szl19, szl20, szl21, szl22, szl23, szl24, szl25, szl26, szl27, szl28, szl29, szl30, szl31, szl32, szl33, szl34, szl35, szl36, szl37, szl38, szl39, szl40, szl41, szl42, szl43, szl44, szl45, szl46, szl47, szl48, szl49, szl50, szl51, szl52, szl53, szl54, szl55, szl56, szl57, szl58, szl59, szl60, szl61, szl62, szl63, szl64, szl65, szl66, szl67, szl68, szl69, frzV_ref, zfrz, Option.map_some, Option.map_none, frzV_non, frzV_bl, frzV_int, frzV_str, frzV_tup, frzV_lst, frzV_rol, frzV_dct]
    by_cases h2 : (ks.length : Int) ≤ 60 <;> simp only [h2, zsp, zSs, zS, zE, zEs, zT, zBoVs, zBoTs, zA, zIfs, zI, zO, zG, zGs, zsCons, zsNil, zsIf, zsRet, zsRetN, zsExpr, zsAsg, zsPar, zsFor, zsSet, zsSetL, zsPass, zsBreak, zsCont, zsFrz, zEnds, zstart, z1, z2, zVar, zGet, zCst, zChain_eq, onB_bl, tOf, zNotT, zBoT, zBoV, zIf, zNil, zCons, zTup, zPart, zNoPart, zSl, zSlL, zCB, zCBL, zBF, zLM, LM.ty, IC.pv, zAbs, zList, zIsi, zVal, zRng1, zRng2, zEnum, Zz.gNm, Zz.gNil, Zz.gCons, Zz.gTup, zCall, zMt, zAppend, zExtend, zInsert, zPop, zReverse, zRev, zDct0, zDctK, zDctT, zYes, zLc, zwipe, zCmp, zEq, zIs, isNonP, List.map_cons, List.map_nil, List.cons_append, List.nil_append, List.replicate_succ, List.replicate_zero, List.length_cons, List.length_nil, List.set_cons_zero, List.set_cons_succ, List.getElem?_cons_zero, List.getElem?_cons_succ, Option.join_some, Nat.reduceAdd, Nat.reduceSub, Nat.zero_add, isiB, Bool.not_eq_true', decide_eq_false_iff_not, decide_eq_true_eq,  tyP_non, isDct_non, rs_non, tyP_bl, isDct_bl, rs_bl, tyP_int, isDct_int, rs_int, tyP_str, isDct_str, rs_str, tyP_tup, isDct_tup, rs_tup, tyP_lst, isDct_lst, rs_lst, tyP_rol, isDct_rol, rs_rol, tyP_dct, isDct_dct, rs_dct, asL_lst, asL_rol, asS_lst, asS_rol, asS_tup, asW_lst, asT_tup, asL_mset, asS_mset, asW_mset, refL_mset, isDct_mset, tyP_mset, rs_mset, Option.some.injEq, exists_eq_left', true_and, and_true, Bool.not_true, Bool.not_false, Bool.false_eq_true, if_true, if_false, ite_true, ite_false, String.reduceBEq, Bool.or_false, Bool.or_true, Bool.false_or, Bool.true_or, Bool.and_false, Bool.and_true, Bool.true_and, Bool.false_and, reduceIte, PV.int.injEq, exists_const, PV.tup.injEq, PV.lst.injEq, PV.ref.injEq, PV.ty.injEq, zIn, List.all_cons, List.all_nil, List.any_cons, List.any_nil, atP_0, atP_1, atP_2, flat_ints, Zz.any_ints, Nat.zero_le, IC.v, Nat.reduceLeDiff, forall_const, mset_mset, not_true_eq_false, not_false_eq_true, cpow9, pow9, cpow18, pow18, cpow30, pow30, ex2, Bool.true_eq_false, Int.cast_ofNat_Int, Int.ofNat_eq_natCast, flatP_non, flatP_bl, flatP_int, flatP_str, flatP_tup, flatP_lst, flatP_dct, eqF_ss, eqF_ii, eqF_bb, zB_Add_i, zB_Sub_i, zB_Mult_i, zB_FloorDiv_i, zB_Mod_i, zB_Pow_i, zB_BitAnd_i, zB_BitOr_i, zB_Add_s, zB_Add_t, zB_Add_l, zB_Mul_l, zIx_tup, zIx_lst, zIx_rol, zIx_str, zIx_mset, zLen_tup, zLen_lst, zLen_rol, zLen_str, zLen_mset, zInt_i, zInt_b, zTuple_t, zTuple_l, zTuple_m, zMax_ii, zMin_ii, zNeg_i, zNotV_b, zAllAny_l, wL_mset, szl0, szl1, szl2, szl3, szl4, szl5, szl6, szl7, szl8, szl9, szl10, szl11, szl12, szl13, szl14, szl15, szl16, szl17, szl18, szl19, szl20, szl21, szl22, szl23, szl24, szl25, szl26, szl27, szl28, szl29, szl30, szl31, szl32, szl33, szl34, szl35, szl36, szl37, szl38, szl39, szl40, szl41, szl42, szl43, szl44, szl45, szl46, szl47, szl48, szl49, szl50, szl51, szl52, szl53, szl54, szl55, szl56, szl57, szl58, szl59, szl60, szl61, szl62, szl63, szl64, szl65, szl66, szl67, szl68, szl69, frzV_ref, zfrz, Option.map_some, Option.map_none, frzV_non, frzV_bl, frzV_int, frzV_str, frzV_tup, frzV_lst, frzV_rol, frzV_dct]
    case pos =>
      refine lc_map (fun x => .bl (isThing x)) _ (fun x hx N R q => ?_) ?_
      · simp only [zsp, zSs, zS, zE, zEs, zT, zBoVs, zBoTs, zA, zIfs, zI, zO, zG, zGs, zsCons, zsNil, zsIf, zsRet, zsRetN, zsExpr, zsAsg, zsPar, zsFor, zsSet, zsSetL, zsPass, zsBreak, zsCont, zsFrz, zEnds, zstart, z1, z2, zVar, zGet, zCst, zChain_eq, onB_bl, tOf, zNotT, zBoT, zBoV, zIf, zNil, zCons, zTup, zPart, zNoPart, zSl, zSlL, zCB, zCBL, zBF, zLM, LM.ty, IC.pv, zAbs, zList, zIsi, zVal, zRng1, zRng2, zEnum, Zz.gNm, Zz.gNil, Zz.gCons, Zz.gTup, zCall, zMt, zAppend, zExtend, zInsert, zPop, zReverse, zRev, zDct0, zDctK, zDctT, zYes, zLc, zwipe, zCmp, zEq, zIs, isNonP, List.map_cons, List.map_nil, List.cons_append, List.nil_append, List.replicate_succ, List.replicate_zero, List.length_cons, List.length_nil, List.set_cons_zero, List.set_cons_succ, List.getElem?_cons_zero, List.getElem?_cons_succ, Option.join_some, Nat.reduceAdd, Nat.reduceSub, Nat.zero_add, isiB, Bool.not_eq_true', decide_eq_false_iff_not, decide_eq_true_eq,  tyP_non, isDct_non, rs_non, tyP_bl, isDct_bl, rs_bl, tyP_int, isDct_int, rs_int, tyP_str, isDct_str, rs_str, tyP_tup, isDct_tup, rs_tup, tyP_lst, isDct_lst, rs_lst, tyP_rol, isDct_rol, rs_rol, tyP_dct, isDct_dct, rs_dct, asL_lst, asL_rol, asS_lst, asS_rol, asS_tup, asW_lst, asT_tup, asL_mset, asS_mset, asW_mset, refL_mset, isDct_mset, tyP_mset, rs_mset, Option.some.injEq, exists_eq_left', true_and, and_true, Bool.not_true, Bool.not_false, Bool.false_eq_true, if_true, if_false, ite_true, ite_false, String.reduceBEq, Bool.or_false, Bool.or_true, Bool.false_or, Bool.true_or, Bool.and_false, Bool.and_true, Bool.true_and, Bool.false_and, reduceIte, PV.int.injEq, exists_const, PV.tup.injEq, PV.lst.injEq, PV.ref.injEq, PV.ty.injEq, zIn, List.all_cons, List.all_nil, List.any_cons, List.any_nil, atP_0, atP_1, atP_2, flat_ints, Zz.any_ints, Nat.zero_le, IC.v, Nat.reduceLeDiff, forall_const, mset_mset, not_true_eq_false, not_false_eq_true, cpow9, pow9, cpow18, pow18, cpow30, pow30, ex2, Bool.true_eq_false, Int.cast_ofNat_Int, Int.ofNat_eq_natCast, flatP_non, flatP_bl, flatP_int, flatP_str, flatP_tup, flatP_lst, flatP_dct, eqF_ss, eqF_ii, eqF_bb, zB_Add_i, zB_Sub_i, zB_Mult_i, zB_FloorDiv_i, zB_Mod_i, zB_Pow_i, zB_BitAnd_i, zB_BitOr_i, zB_Add_s, zB_Add_t, zB_Add_l, zB_Mul_l, zIx_tup, zIx_lst, zIx_rol, zIx_str, zIx_mset, zLen_tup, zLen_lst, zLen_rol, zLen_str, zLen_mset, zInt_i, zInt_b, zTuple_t, zTuple_l, zTuple_m, zMax_ii, zMin_ii, zNeg_i, zNotV_b, zAllAny_l, wL_mset, szl0, szl1, szl2, szl3, szl4, szl5, szl6, szl7, szl8, szl9, szl10, szl11, szl12, szl13, szl14, szl15, szl16, szl17, szl18, szl19, szl20, szl21, szl22, szl23, szl24, szl25, szl26, szl27, szl28, szl29, szl30, szl31, szl32, szl33, szl34, szl35, szl36, szl37, szl38, szl39, szl40, szl41, szl42, szl43, szl44, szl45, szl46, szl47, szl48, szl49, szl50, szl51, szl52, szl53, szl54, szl55, szl56, szl57, szl58, szl59, szl60, szl61, szl62, szl63, szl64, szl65, szl66, szl67, szl68, szl69, frzV_ref, zfrz, Option.map_some, Option.map_none, frzV_non, frzV_bl, frzV_int, frzV_str, frzV_tup, frzV_lst, frzV_rol, frzV_dct]
        exact sp_is_thing E (pls_mem h x hx) q
      · refine ⟨?_, ks.map isThing, ?_, ret_same ?_⟩
        · rw [List.length_map]
          exact Nat.le_trans (Int.ofNat_le.mp h2) (by decide)
        · rw [List.map_map]; rfl
        · rw [all_id_map]
          have h2' : ks.length ≤ 60 := by omega
          simpa [isRow, h2'] using q
    all_goals
      apply ret_same
      have h2' : decide (ks.length ≤ 60) = decide ((ks.length : Int) ≤ 60) := by simp; omega
      simpa [isRow, h2', h2] using q
  | _ =>
    simp only [ir_is_row, N_is_row, zsp, zSs, zS, zE, zEs, zT, zBoVs, zBoTs, zA, zIfs, zI, zO, zG, zGs, zsCons, zsNil, zsIf, zsRet, zsRetN, zsExpr, zsAsg, zsPar, zsFor, zsSet, zsSetL, zsPass, zsBreak, zsCont, zsFrz, zEnds, zstart, z1, z2, zVar, zGet, zCst, zChain_eq, onB_bl, tOf, zNotT, zBoT, zBoV, zIf, zNil, zCons, zTup, zPart, zNoPart, zSl, zSlL, zCB, zCBL, zBF, zLM, LM.ty, IC.pv, zAbs, zList, zIsi, zVal, zRng1, zRng2, zEnum, Zz.gNm, Zz.gNil, Zz.gCons, Zz.gTup, zCall, zMt, zAppend, zExtend, zInsert, zPop, zReverse, zRev, zDct0, zDctK, zDctT, zYes, zLc, zwipe, zCmp, zEq, zIs, isNonP, List.map_cons, List.map_nil, List.cons_append, List.nil_append, List.replicate_succ, List.replicate_zero, List.length_cons, List.length_nil, List.set_cons_zero, List.set_cons_succ, List.getElem?_cons_zero, List.getElem?_cons_succ, Option.join_some, Nat.reduceAdd, Nat.reduceSub, Nat.zero_add, isiB, Bool.not_eq_true', decide_eq_false_iff_not, decide_eq_true_eq,  tyP_non, isDct_non, rs_non, tyP_bl, isDct_bl, rs_bl, tyP_int, isDct_int, rs_int, tyP_str, isDct_str, rs_str, tyP_tup, isDct_tup, rs_tup, tyP_lst, isDct_lst, rs_lst, tyP_rol, isDct_rol, rs_rol, tyP_dct, isDct_dct, rs_dct, asL_lst, asL_rol, asS_lst, asS_rol, asS_tup, asW_lst, asT_tup, asL_mset, asS_mset, asW_mset, refL_mset, isDct_mset, tyP_mset, rs_mset, Option.some.injEq, exists_eq_left', true_and, and_true, Bool.not_true, Bool.not_false, Bool.false_eq_true, if_true, if_false, ite_true, ite_false, String.reduceBEq, Bool.or_false, Bool.or_true, Bool.false_or, Bool.true_or, Bool.and_false, Bool.and_true, Bool.true_and, Bool.false_and, reduceIte, PV.int.injEq, exists_const, PV.tup.injEq, PV.lst.injEq, PV.ref.injEq, PV.ty.injEq, zIn, List.all_cons, List.all_nil, List.any_cons, List.any_nil, atP_0, atP_1, atP_2, flat_ints, Zz.any_ints, Nat.zero_le, IC.v, Nat.reduceLeDiff, forall_const, mset_mset, not_true_eq_false, not_false_eq_true, cpow9, pow9, cpow18, pow18, cpow30, pow30, ex2, Bool.true_eq_false, Int.cast_ofNat_Int, Int.ofNat_eq_natCast, flatP_non, flatP_bl, flatP_int, flatP_str, flatP_tup, flatP_lst, flatP_dct, eqF_ss, eqF_ii, eqF_bb, zB_Add_i, zB_Sub_i, zB_Mult_i, zB_FloorDiv_i, zB_Mod_i, zB_Pow_i, zB_BitAnd_i, zB_BitOr_i, zB_Add_s, zB_Add_t, zB_Add_l, zB_Mul_l, zIx_tup, zIx_lst, zIx_rol, zIx_str, zIx_mset, zLen_tup, zLen_lst, zLen_rol, zLen_str, zLen_mset, zInt_i, zInt_b, zTuple_t, zTuple_l, zTuple_m, zMax_ii, zMin_ii, zNeg_i, zNotV_b, zAllAny_l, wL_mset, szl0, szl1, szl2, szl3, szl4, szl5, szl6, szl7, szl8, szl9, szl10, szl11, szl12, szl13, szl14, szl15, szl16, szl17, szl18, szl19, szl20, szl21, szl22, szl23, szl24, szl25, szl26, szl27, szl28, szl29, szl30, szl31, szl32, szl33, szl34, szl35, szl36, szl37, szl38, szl39, szl40, szl41, szl42, szl43, szl44, szl45, szl46, szl47, szl48, szl49, szl50, szl51, szl52, szl53, szl54, szl55, szl56, szl57, szl58, szl59, szl60, szl61, szl62, szl63, szl64, szl65, szl66, szl67, szl68, szl69, frzV_ref, zfrz, Option.map_some, Option.map_none, frzV_non, frzV_bl, frzV_int, frzV_str, frzV_tup, frzV_lst, frzV_rol, frzV_dct]
    first | exact ret_same q | (simp [pl] at h; done)
theorem sp_L_is_row (h : pl x = true) (q : Q (.bl (isRow x)) M) : ZCall T (k + 4) "_law_is_row" [x] M Q X := by
  apply call_L_is_row E rfl
  cases x with
  | tup ks =>
    simp only [ir_L_is_row, N_L_is_row, zsp, zSs, zS, zE, zEs, zT, zBoVs, zBoTs, zA, zIfs, zI, zO, zG, zGs, zsCons, zsNil, zsIf, zsRet, zsRetN, zsExpr, zsAsg, zsPar, zsFor, zsSet, zsSetL, zsPass, zsBreak, zsCont, zsFrz, zEnds, zstart, z1, z2, zVar, zGet, zCst, zChain_eq, onB_bl, tOf, zNotT, zBoT, zBoV, zIf, zNil, zCons, zTup, zPart, zNoPart, zSl, zSlL, zCB, zCBL, zBF, zLM, LM.ty, IC.pv, zAbs, zList, zIsi, zVal, zRng1, zRng2, zEnum, Zz.gNm, Zz.gNil, Zz.gCons, Zz.gTup, zCall, zMt, zAppend, zExtend, zInsert, zPop, zReverse, zRev, zDct0, zDctK, zDctT, zYes, zLc, zwipe, zCmp, zEq, zIs, isNonP, List.map_cons, List.map_nil, List.cons_append, List.nil_append, List.replicate_succ, List.replicate_zero, List.length_cons, List.length_nil, List.set_cons_zero, List.set_cons_succ, List.getElem?_cons_zero, List.getElem?_cons_succ, Option.join_some, Nat.reduceAdd, Nat.reduceSub, Nat.zero_add, isiB, Bool.not_eq_true', decide_eq_false_iff_not, decide_eq_true_eq,  tyP_non, isDct_non, rs_non, tyP_bl, isDct_bl, rs_bl, tyP_int, isDct_int, rs_int, tyP_str, isDct_str, rs_str, tyP_tup, isDct_tup, rs_tup, tyP_lst, isDct_lst, rs_lst, tyP_rol, isDct_rol, rs_rol, tyP_dct, isDct_dct, rs_dct, asL_lst, asL_rol, asS_lst, asS_rol, asS_tup, asW_lst, asT_tup, asL_mset, asS_mset, asW_mset, refL_mset, isDct_mset, tyP_mset, rs_mset, Option.some.injEq, exists_eq_left', true_and, and_true, Bool.not_true, Bool.not_false, Bool.false_eq_true, if_true, if_false, ite_true, ite_false, String.reduceBEq, Bool.or_false, Bool.or_true, Bool.false_or, Bool.true_or, Bool.and_false, Bool.and_true, Bool.true_and, Bool.false_and, reduceIte, PV.int.injEq, exists_const, PV.tup.injEq, PV.lst.injEq, PV.ref.injEq, PV.ty.injEq, zIn, List.all_cons, List.all_nil, List.any_cons, List.any_nil, atP_0, atP_1, atP_2, flat_ints, Zz.any_ints, Nat.zero_le, IC.v, Nat.reduceLeDiff, forall_const, mset_mset, not_true_eq_false, not_false_eq_true, cpow9, pow9, cpow18, pow18, cpow30, pow30, ex2, Bool.true_eq_false, Int.cast_ofNat_Int, Int.ofNat_eq_natCast, flatP_non, flatP_bl, flatP_int, flatP_str, flatP_tup, flatP_lst, flatP_dct, eqF_ss, eqF_ii, eqF_bb, zB_Add_i, zB_Sub_i, zB_Mult_i, zB_FloorDiv_i, zB_Mod_i, zB_Pow_i, zB_BitAnd_i, zB_BitOr_i, zB_Add_s, zB_Add_t, zB_Add_l, zB_Mul_l, zIx_tup, zIx_lst, zIx_rol, zIx_str, zIx_mset, zLen_tup, zLen_lst, zLen_rol, zLen_str, zLen_mset, zInt_i, zInt_b, zTuple_t, zTuple_l, zTuple_m, zMax_ii, zMin_ii, zNeg_i, zNotV_b, zAllAny_l, wL_mset, szl0, szl1, szl2, szl3, szl4, szl5, szl6, szl7, szl8, szl9, szl10, szl11, szl12, szl13, szl14, szl15, szl16, szl17, szl18, szl19, szl20, szl21, szl22, szl23, szl24, szl25, szl26, szl27, szl28, szl29, szl30, szl31, szl32, szl33, szl34, szl35, szl36, szl37, szl38, szl39, szl40, szl41, szl42, szl43, szl44, szl45, szl46, szl47, szl48, szl49, szl50, szl51, szl52, szl53, szl54, szl55, szl56, szl57, szl58, szl59, szl60, szl61, szl62, szl63, szl64, szl65, szl66, szl67, szl68, szl69, frzV_ref, zfrz, Option.map_some, Option.map_none, frzV_non, frzV_bl, frzV_int, frzV_str, frzV_tup, frzV_lst, frzV_rol, frzV_dct]
    by_cases h2 : (ks.length : Int) ≤ 60 <;> simp only [h2, zsp, zSs, zS, zE, zEs, zT, zBoVs, zBoTs, zA, zIfs, zI, zO, zG, zGs, zsCons, zsNil, zsIf, zsRet, zsRetN, zsExpr, zsAsg, zsPar, zsFor, zsSet, zsSetL, zsPass, zsBreak, zsCont, zsFrz, zEnds, zstart, z1, z2, zVar, zGet, zCst, zChain_eq, onB_bl, tOf, zNotT, zBoT, zBoV, zIf, zNil, zCons, zTup, zPart, zNoPart, zSl, zSlL, zCB, zCBL, zBF, zLM, LM.ty, IC.pv, zAbs, zList, zIsi, zVal, zRng1, zRng2, zEnum, Zz.gNm, Zz.gNil, Zz.gCons, Zz.gTup, zCall, zMt, zAppend, zExtend, zInsert, zPop, zReverse, zRev, zDct0, zDctK, zDctT, zYes, zLc, zwipe, zCmp, zEq, zIs, isNonP, List.map_cons, List.map_nil, List.cons_append, List.nil_append, List.replicate_succ, List.replicate_zero, List.length_cons, List.length_nil, List.set_cons_zero, List.set_cons_succ, List.getElem?_cons_zero, List.getElem?_cons_succ, Option.join_some, Nat.reduceAdd, Nat.reduceSub, Nat.zero_add, isiB, Bool.not_eq_true', decide_eq_false_iff_not, decide_eq_true_eq,  tyP_non, isDct_non, rs_non, tyP_bl, isDct_bl, rs_bl, tyP_int, isDct_int, rs_int, tyP_str, isDct_str, rs_str, tyP_tup, isDct_tup, rs_tup, tyP_lst, isDct_lst, rs_lst, tyP_rol, isDct_rol, rs_rol, tyP_dct, isDct_dct, rs_dct, asL_lst, asL_rol, asS_lst, asS_rol, asS_tup, asW_lst, asT_tup, asL_mset, asS_mset, asW_mset, refL_mset, isDct_mset, tyP_mset, rs_mset, Option.some.injEq, exists_eq_left', true_and, and_true, Bool.not_true, Bool.not_false, Bool.false_eq_true, if_true, if_false, ite_true, ite_false, String.reduceBEq, Bool.or_false, Bool.or_true, Bool.false_or, Bool.true_or, Bool.and_false, Bool.and_true, Bool.true_and, Bool.false_and, reduceIte, PV.int.injEq, exists_const, PV.tup.injEq, PV.lst.injEq, PV.ref.injEq, PV.ty.injEq, zIn, List.all_cons, List.all_nil, List.any_cons, List.any_nil, atP_0, atP_1, atP_2, flat_ints, Zz.any_ints, Nat.zero_le, IC.v, Nat.reduceLeDiff, forall_const, mset_mset, not_true_eq_false, not_false_eq_true, cpow9, pow9, cpow18, pow18, cpow30, pow30, ex2, Bool.true_eq_false, Int.cast_ofNat_Int, Int.ofNat_eq_natCast, flatP_non, flatP_bl, flatP_int, flatP_str, flatP_tup, flatP_lst, flatP_dct, eqF_ss, eqF_ii, eqF_bb, zB_Add_i, zB_Sub_i, zB_Mult_i, zB_FloorDiv_i, zB_Mod_i, zB_Pow_i, zB_BitAnd_i, zB_BitOr_i, zB_Add_s, zB_Add_t, zB_Add_l, zB_Mul_l, zIx_tup, zIx_lst, zIx_rol, zIx_str, zIx_mset, zLen_tup, zLen_lst, zLen_rol, zLen_str, zLen_mset, zInt_i, zInt_b, zTuple_t, zTuple_l, zTuple_m, zMax_ii, zMin_ii, zNeg_i, zNotV_b, zAllAny_l, wL_mset, szl0, szl1, szl2, szl3, szl4, szl5, szl6, szl7, szl8, szl9, szl10, szl11, szl12, szl13, szl14, szl15, szl16, szl17, szl18, szl19, szl20, szl21, szl22, szl23, szl24, szl25, szl26, szl27, szl28, szl29, szl30, szl31, szl32, szl33, szl34, szl35, szl36, szl37, szl38, szl39, szl40, szl41, szl42, szl43, szl44, szl45, szl46, szl47, szl48, szl49, szl50, szl51, szl52, szl53, szl54, szl55, szl56, szl57, szl58, szl59, szl60, szl61, szl62, szl63, szl64, szl65, szl66, szl67, szl68, szl69, frzV_ref, zfrz, Option.map_some, Option.map_none, frzV_non, frzV_bl, frzV_int, frzV_str, frzV_tup, frzV_lst, frzV_rol, frzV_dct]
    case pos =>
      refine lc_map (fun x => .bl (isThing x)) _ (fun x hx N R q => ?_) ?_
      · simp only [zsp, zSs, zS, zE, zEs, zT, zBoVs, zBoTs, zA, zIfs, zI, zO, zG, zGs, zsCons, zsNil, zsIf, zsRet, zsRetN, zsExpr, zsAsg, zsPar, zsFor, zsSet, zsSetL, zsPass, zsBreak, zsCont, zsFrz, zEnds, zstart, z1, z2, zVar, zGet, zCst, zChain_eq, onB_bl, tOf, zNotT, zBoT, zBoV, zIf, zNil, zCons, zTup, zPart, zNoPart, zSl, zSlL, zCB, zCBL, zBF, zLM, LM.ty, IC.pv, zAbs, zList, zIsi, zVal, zRng1, zRng2, zEnum, Zz.gNm, Zz.gNil, Zz.gCons, Zz.gTup, zCall, zMt, zAppend, zExtend, zInsert, zPop, zReverse, zRev, zDct0, zDctK, zDctT, zYes, zLc, zwipe, zCmp, zEq, zIs, isNonP, List.map_cons, List.map_nil, List.cons_append, List.nil_append, List.replicate_succ, List.replicate_zero, List.length_cons, List.length_nil, List.set_cons_zero, List.set_cons_succ, List.getElem?_cons_zero, List.getElem?_cons_succ, Option.join_some, Nat.reduceAdd, Nat.reduceSub, Nat.zero_add, isiB, Bool.not_eq_true', decide_eq_false_iff_not, decide_eq_true_eq,  tyP_non, isDct_non, rs_non, tyP_bl, isDct_bl, rs_bl, tyP_int, isDct_int, rs_int, tyP_str, isDct_str, rs_str, tyP_tup, isDct_tup, rs_tup, tyP_lst, isDct_lst, rs_lst, tyP_rol, isDct_rol, rs_rol, tyP_dct, isDct_dct, rs_dct, asL_lst, asL_rol, asS_lst, asS_rol, asS_tup, asW_lst, asT_tup, asL_mset, asS_mset, asW_mset, refL_mset, isDct_mset, tyP_mset, rs_mset, Option.some.injEq, exists_eq_left', true_and, and_true, Bool.not_true, Bool.not_false, Bool.false_eq_true, if_true, if_false, ite_true, ite_false, String.reduceBEq, Bool.or_false, Bool.or_true, Bool.false_or, Bool.true_or, Bool.and_false, Bool.and_true, Bool.true_and, Bool.false_and, reduceIte, PV.int.injEq, exists_const, PV.tup.injEq, PV.lst.injEq, PV.ref.injEq, PV.ty.injEq, zIn, List.all_cons, List.all_nil, List.any_cons, List.any_nil, atP_0, atP_1, atP_2, flat_ints, Zz.any_ints, Nat.zero_le, IC.v, Nat.reduceLeDiff, forall_const, mset_mset, not_true_eq_false, not_false_eq_true, cpow9, pow9, cpow18, pow18, cpow30, pow30, ex2, Bool.true_eq_false, Int.cast_ofNat_Int, Int.ofNat_eq_natCast, flatP_non, flatP_bl, flatP_int, flatP_str, flatP_tup, flatP_lst, flatP_dct, eqF_ss, eqF_ii, eqF_bb, zB_Add_i, zB_Sub_i, zB_Mult_i, zB_FloorDiv_i, zB_Mod_i, zB_Pow_i, zB_BitAnd_i, zB_BitOr_i, zB_Add_s, zB_Add_t, zB_Add_l, zB_Mul_l, zIx_tup, zIx_lst, zIx_rol, zIx_str, zIx_mset, zLen_tup, zLen_lst, zLen_rol, zLen_str, zLen_mset, zInt_i, zInt_b, zTuple_t, zTuple_l, zTuple_m, zMax_ii, zMin_ii, zNeg_i, zNotV_b, zAllAny_l, wL_mset, szl0, szl1, szl2, szl3, szl4, szl5, szl6, szl7, szl8, szl9, szl10, szl11, szl12, szl13, szl14, szl15, szl16, szl17, szl18, szl19, szl20, szl21, szl22, szl23, szl24, szl25, szl26, szl27, szl28, szl29, szl30, szl31, szl32, szl33, szl34, szl35, szl36, szl37, szl38, szl39, szl40, szl41, szl42, szl43, szl44, szl45, szl46, szl47, szl48, szl49, szl50, szl51, szl52, szl53, szl54, szl55, szl56, szl57, szl58, szl59, szl60, szl61, szl62, szl63, szl64, szl65, szl66, szl67, szl68, szl69, frzV_ref, zfrz, Option.map_some, Option.map_none, frzV_non, frzV_bl, frzV_int, frzV_str, frzV_tup, frzV_lst, frzV_rol, frzV_dct]
        exact sp_L_is_thing E (pls_mem h x hx) q
      · refine ⟨?_, ks.map isThing, ?_, ret_same ?_⟩
        · rw [List.length_map]
          exact Nat.le_trans (Int.ofNat_le.mp h2) (by decide)
        · rw [List.map_map]; rfl
        · rw [all_id_map]
          have h2' : ks.length ≤ 60 := by omega
          simpa [isRow, h2'] using q
    all_goals
      apply ret_same
      have h2' : decide (ks.length ≤ 60) = decide ((ks.length : Int) ≤ 60) := by simp; omega
      simpa [isRow, h2', h2] using q
  | _ =>
    simp only [ir_L_is_row, N_L_is_row, zsp, zSs, zS, zE, zEs, zT, zBoVs, zBoTs, zA, zIfs, zI, zO, zG, zGs, zsCons, zsNil, zsIf, zsRet, zsRetN, zsExpr, zsAsg, zsPar, zsFor, zsSet, zsSetL, zsPass, zsBreak, zsCont, zsFrz, zEnds, zstart, z1, z2, zVar, zGet, zCst, zChain_eq, onB_bl, tOf, zNotT, zBoT, zBoV, zIf, zNil, zCons, zTup, zPart, zNoPart, zSl, zSlL, zCB, zCBL, zBF, zLM, LM.ty, IC.pv, zAbs, zList, zIsi, zVal, zRng1, zRng2, zEnum, Zz.gNm, Zz.gNil, Zz.gCons, Zz.gTup, zCall, zMt, zAppend, zExtend, zInsert, zPop, zReverse, zRev, zDct0, zDctK, zDctT, zYes, zLc, zwipe, zCmp, zEq, zIs, isNonP, List.map_cons, List.map_nil, List.cons_append, List.nil_append, List.replicate_succ, List.replicate_zero, List.length_cons, List.length_nil, List.set_cons_zero, List.set_cons_succ, List.getElem?_cons_zero, List.getElem?_cons_succ, Option.join_some, Nat.reduceAdd, Nat.reduceSub, Nat.zero_add, isiB, Bool.not_eq_true', decide_eq_false_iff_not, decide_eq_true_eq,  tyP_non, isDct_non, rs_non, tyP_bl, isDct_bl, rs_bl, tyP_int, isDct_int, rs_int, tyP_str, isDct_str, rs_str, tyP_tup, isDct_tup, rs_tup, tyP_lst, isDct_lst, rs_lst, tyP_rol, isDct_rol, rs_rol, tyP_dct, isDct_dct, rs_dct, asL_lst, asL_rol, asS_lst, asS_rol, asS_tup, asW_lst, asT_tup, asL_mset, asS_mset, asW_mset, refL_mset, isDct_mset, tyP_mset, rs_mset, Option.some.injEq, exists_eq_left', true_and, and_true, Bool.not_true, Bool.not_false, Bool.false_eq_true, if_true, if_false, ite_true, ite_false, String.reduceBEq, Bool.or_false, Bool.or_true, Bool.false_or, Bool.true_or, Bool.and_false, Bool.and_true, Bool.true_and, Bool.false_and, reduceIte, PV.int.injEq, exists_const, PV.tup.injEq, PV.lst.injEq, PV.ref.injEq, PV.ty.injEq, zIn, List.all_cons, List.all_nil, List.any_cons, List.any_nil, atP_0, atP_1, atP_2, flat_ints, Zz.any_ints, Nat.zero_le, IC.v, Nat.reduceLeDiff, forall_const, mset_mset, not_true_eq_false, not_false_eq_true, cpow9, pow9, cpow18, pow18, cpow30, pow30, ex2, Bool.true_eq_false, Int.cast_ofNat_Int, Int.ofNat_eq_natCast, flatP_non, flatP_bl, flatP_int, flatP_str, flatP_tup, flatP_lst, flatP_dct, eqF_ss, eqF_ii, eqF_bb, zB_Add_i, zB_Sub_i, zB_Mult_i, zB_FloorDiv_i, zB_Mod_i, zB_Pow_i, zB_BitAnd_i, zB_BitOr_i, zB_Add_s, zB_Add_t, zB_Add_l, zB_Mul_l, zIx_tup, zIx_lst, zIx_rol, zIx_str, zIx_mset, zLen_tup, zLen_lst, zLen_rol, zLen_str, zLen_mset, zInt_i, zInt_b, zTuple_t, zTuple_l, zTuple_m, zMax_ii, zMin_ii, zNeg_i, zNotV_b, zAllAny_l, wL_mset, szl0, szl1, szl2, szl3, szl4, szl5, szl6, szl7, szl8, szl9, szl10, szl11, szl12, szl13, szl14, szl15, szl16, szl17, szl18, szl19, szl20, szl21, szl22, szl23, szl24, szl25, szl26, szl27, szl28, szl29, szl30, szl31, szl32, szl33, szl34, szl35, szl36, szl37, szl38, szl39, szl40, szl41, szl42, szl43, szl44, szl45, szl46, szl47, szl48, szl49, szl50, szl51, szl52, szl53, szl54, szl55, szl56, szl57, szl58, szl59, szl60, szl61, szl62, szl63, szl64, szl65, szl66, szl67, szl68, szl69, frzV_ref, zfrz, Option.map_some, Option.map_none, frzV_non, frzV_bl, frzV_int, frzV_str, frzV_tup, frzV_lst, frzV_rol, frzV_dct]
    first | exact ret_same q | (simp [pl] at h; done)
end
end Lk01
end
section
namespace Lk01
open PySem PySem.Spec PyProof.Rows L2 Zz
def up : Str := "up"
def down : Str := "down"
def isPart : PV → Bool
  | .tup [.int n, .str w] => decide (1 ≤ n) && decide (n ≤ 4) && (up == w || down == w)
  | _ => false
def colOf : PV → Int
  | .tup (.int n :: _) => n
  | _ => 0
def goOrder : List PV → List Int → Bool
  | [], _ => true
  | p :: r, cs => isPart p && !(cs.any fun e => e == colOf p) && goOrder r (cs ++ [colOf p])
def isOrder : PV → Bool
  | .tup ps => decide (1 ≤ ps.length) && decide (ps.length ≤ 4) && goOrder ps []
  | _ => false
section
variable {T : Tx} (E : EnvT T) {k : Nat} {x : PV} {M : Mem} {Q : ZK} {X : ZX}
include E
theorem sp_is_part (h : pl x = true) (q : Q (.bl (isPart x)) M) : ZCall T (k + 2) "is_part" [x] M Q X := by
  apply call_is_part E rfl
  cases x with
  | tup ks =>
    simp only [ir_is_part, N_is_part, zsp, zSs, zS, zE, zEs, zT, zBoVs, zBoTs, zA, zIfs, zI, zO, zG, zGs, zsCons, zsNil, zsIf, zsRet, zsRetN, zsExpr, zsAsg, zsPar, zsFor, zsSet, zsSetL, zsPass, zsBreak, zsCont, zsFrz, zEnds, zstart, z1, z2, zVar, zGet, zCst, zChain_eq, onB_bl, tOf, zNotT, zBoT, zBoV, zIf, zNil, zCons, zTup, zPart, zNoPart, zSl, zSlL, zCB, zCBL, zBF, zLM, LM.ty, IC.pv, zAbs, zList, zIsi, zVal, zRng1, zRng2, zEnum, Zz.gNm, Zz.gNil, Zz.gCons, Zz.gTup, zCall, zMt, zAppend, zExtend, zInsert, zPop, zReverse, zRev, zDct0, zDctK, zDctT, zYes, zLc, zwipe, zCmp, zEq, zIs, isNonP, List.map_cons, List.map_nil, List.cons_append, List.nil_append, List.replicate_succ, List.replicate_zero, List.length_cons, List.length_nil, List.set_cons_zero, List.set_cons_succ, List.getElem?_cons_zero, List.getElem?_cons_succ, Option.join_some, Nat.reduceAdd, Nat.reduceSub, Nat.zero_add, isiB, Bool.not_eq_true', decide_eq_false_iff_not, decide_eq_true_eq,  tyP_non, isDct_non, rs_non, tyP_bl, isDct_bl, rs_bl, tyP_int, isDct_int, rs_int, tyP_str, isDct_str, rs_str, tyP_tup, isDct_tup, rs_tup, tyP_lst, isDct_lst, rs_lst, tyP_rol, isDct_rol, rs_rol, tyP_dct, isDct_dct, rs_dct, asL_lst, asL_rol, asS_lst, asS_rol, asS_tup, asW_lst, asT_tup, asL_mset, asS_mset, asW_mset, refL_mset, isDct_mset, tyP_mset, rs_mset, Option.some.injEq, exists_eq_left', true_and, and_true, Bool.not_true, Bool.not_false, Bool.false_eq_true, if_true, if_false, ite_true, ite_false, String.reduceBEq, Bool.or_false, Bool.or_true, Bool.false_or, Bool.true_or, Bool.and_false, Bool.and_true, Bool.true_and, Bool.false_and, reduceIte, PV.int.injEq, exists_const, PV.tup.injEq, PV.lst.injEq, PV.ref.injEq, PV.ty.injEq, zIn, List.all_cons, List.all_nil, List.any_cons, List.any_nil, atP_0, atP_1, atP_2, flat_ints, Zz.any_ints, Nat.zero_le, IC.v, Nat.reduceLeDiff, forall_const, mset_mset, not_true_eq_false, not_false_eq_true, cpow9, pow9, cpow18, pow18, cpow30, pow30, ex2, Bool.true_eq_false, Int.cast_ofNat_Int, Int.ofNat_eq_natCast, flatP_non, flatP_bl, flatP_int, flatP_str, flatP_tup, flatP_lst, flatP_dct, eqF_ss, eqF_ii, eqF_bb, zB_Add_i, zB_Sub_i, zB_Mult_i, zB_FloorDiv_i, zB_Mod_i, zB_Pow_i, zB_BitAnd_i, zB_BitOr_i, zB_Add_s, zB_Add_t, zB_Add_l, zB_Mul_l, zIx_tup, zIx_lst, zIx_rol, zIx_str, zIx_mset, zLen_tup, zLen_lst, zLen_rol, zLen_str, zLen_mset, zInt_i, zInt_b, zTuple_t, zTuple_l, zTuple_m, zMax_ii, zMin_ii, zNeg_i, zNotV_b, zAllAny_l, wL_mset, szl0, szl1, szl2, szl3, szl4, szl5, szl6, szl7, szl8, szl9, szl10, szl11, szl12, szl13, szl14, szl15, szl16, szl17, szl18, szl19, szl20, szl21, szl22, szl23, szl24, szl25, szl26, szl27, szl28, szl29, szl30, szl31, szl32, szl33, szl34, szl35, szl36, szl37, szl38, szl39, szl40, szl41, szl42, szl43, szl44, szl45, szl46, szl47, szl48, szl49, szl50, szl51, szl52, szl53, szl54, szl55, szl56, szl57, szl58, szl59, szl60, szl61, szl62, szl63, szl64, szl65, szl66, szl67, szl68, szl69, frzV_ref, zfrz, Option.map_some, Option.map_none, frzV_non, frzV_bl, frzV_int, frzV_str, frzV_tup, frzV_lst, frzV_rol, frzV_dct]
    match ks, h, q with
    | [], h, q => simp only [zsp, zSs, zS, zE, zEs, zT, zBoVs, zBoTs, zA, zIfs, zI, zO, zG, zGs, zsCons, zsNil, zsIf, zsRet, zsRetN, zsExpr, zsAsg, zsPar, zsFor, zsSet, zsSetL, zsPass, zsBreak, zsCont, zsFrz, zEnds, zstart, z1, z2, zVar, zGet, zCst, zChain_eq, onB_bl, tOf, zNotT, zBoT, zBoV, zIf, zNil, zCons, zTup, zPart, zNoPart, zSl, zSlL, zCB, zCBL, zBF, zLM, LM.ty, IC.pv, zAbs, zList, zIsi, zVal, zRng1, zRng2, zEnum, Zz.gNm, Zz.gNil, Zz.gCons, Zz.gTup, zCall, zMt, zAppend, zExtend, zInsert, zPop, zReverse, zRev, zDct0, zDctK, zDctT, zYes, zLc, zwipe, zCmp, zEq, zIs, isNonP, List.map_cons, List.map_nil, List.cons_append, List.nil_append, List.replicate_succ, List.replicate_zero, List.length_cons, List.length_nil, List.set_cons_zero, List.set_cons_succ, List.getElem?_cons_zero, List.getElem?_cons_succ, Option.join_some, Nat.reduceAdd, Nat.reduceSub, Nat.zero_add, isiB, Bool.not_eq_true', decide_eq_false_iff_not, decide_eq_true_eq,  tyP_non, isDct_non, rs_non, tyP_bl, isDct_bl, rs_bl, tyP_int, isDct_int, rs_int, tyP_str, isDct_str, rs_str, tyP_tup, isDct_tup, rs_tup, tyP_lst, isDct_lst, rs_lst, tyP_rol, isDct_rol, rs_rol, tyP_dct, isDct_dct, rs_dct, asL_lst, asL_rol, asS_lst, asS_rol, asS_tup, asW_lst, asT_tup, asL_mset, asS_mset, asW_mset, refL_mset, isDct_mset, tyP_mset, rs_mset, Option.some.injEq, exists_eq_left', true_and, and_true, Bool.not_true, Bool.not_false, Bool.false_eq_true, if_true, if_false, ite_true, ite_false, String.reduceBEq, Bool.or_false, Bool.or_true, Bool.false_or, Bool.true_or, Bool.and_false, Bool.and_true, Bool.true_and, Bool.false_and, reduceIte, PV.int.injEq, exists_const, PV.tup.injEq, PV.lst.injEq, PV.ref.injEq, PV.ty.injEq, zIn, List.all_cons, List.all_nil, List.any_cons, List.any_nil, atP_0, atP_1, atP_2, flat_ints, Zz.any_ints, Nat.zero_le, IC.v, Nat.reduceLeDiff, forall_const, mset_mset, not_true_eq_false, not_false_eq_true, cpow9, pow9, cpow18, pow18, cpow30, pow30, ex2, Bool.true_eq_false, Int.cast_ofNat_Int, Int.ofNat_eq_natCast, flatP_non, flatP_bl, flatP_int, flatP_str, flatP_tup, flatP_lst, flatP_dct, eqF_ss, eqF_ii, eqF_bb, zB_Add_i, zB_Sub_i, zB_Mult_i, zB_FloorDiv_i, zB_Mod_i, zB_Pow_i, zB_BitAnd_i, zB_BitOr_i, zB_Add_s, zB_Add_t, zB_Add_l, zB_Mul_l, zIx_tup, zIx_lst, zIx_rol, zIx_str, zIx_mset, zLen_tup, zLen_lst, zLen_rol, zLen_str, zLen_mset, zInt_i, zInt_b, zTuple_t, zTuple_l, zTuple_m, zMax_ii, zMin_ii, zNeg_i, zNotV_b, zAllAny_l, wL_mset, szl0, szl1, szl2, szl3, szl4, szl5, szl6, szl7, szl8, szl9, szl10, szl11, szl12, szl13, szl14, szl15, szl16, szl17, szl18, szl19, szl20, szl21, szl22, szl23, szl24, szl25, szl26, szl27, szl28, szl29, szl30, szl31, szl32, szl33, szl34, szl35, szl36, szl37, szl38, szl39, szl40, szl41, szl42, szl43, szl44, szl45, szl46, szl47, szl48, szl49, szl50, szl51, szl52, szl53, szl54, szl55, szl56, szl57, szl58, szl59, szl60, szl61, szl62, szl63, szl64, szl65, szl66, szl67, szl68, szl69, frzV_ref, zfrz, Option.map_some, Option.map_none, frzV_non, frzV_bl, frzV_int, frzV_str, frzV_tup, frzV_lst, frzV_rol, frzV_dct]; exact ret_same q
    | [c], h, q => simp only [zsp, zSs, zS, zE, zEs, zT, zBoVs, zBoTs, zA, zIfs, zI, zO, zG, zGs, zsCons, zsNil, zsIf, zsRet, zsRetN, zsExpr, zsAsg, zsPar, zsFor, zsSet, zsSetL, zsPass, zsBreak, zsCont, zsFrz, zEnds, zstart, z1, z2, zVar, zGet, zCst, zChain_eq, onB_bl, tOf, zNotT, zBoT, zBoV, zIf, zNil, zCons, zTup, zPart, zNoPart, zSl, zSlL, zCB, zCBL, zBF, zLM, LM.ty, IC.pv, zAbs, zList, zIsi, zVal, zRng1, zRng2, zEnum, Zz.gNm, Zz.gNil, Zz.gCons, Zz.gTup, zCall, zMt, zAppend, zExtend, zInsert, zPop, zReverse, zRev, zDct0, zDctK, zDctT, zYes, zLc, zwipe, zCmp, zEq, zIs, isNonP, List.map_cons, List.map_nil, List.cons_append, List.nil_append, List.replicate_succ, List.replicate_zero, List.length_cons, List.length_nil, List.set_cons_zero, List.set_cons_succ, List.getElem?_cons_zero, List.getElem?_cons_succ, Option.join_some, Nat.reduceAdd, Nat.reduceSub, Nat.zero_add, isiB, Bool.not_eq_true', decide_eq_false_iff_not, decide_eq_true_eq,  tyP_non, isDct_non, rs_non, tyP_bl, isDct_bl, rs_bl, tyP_int, isDct_int, rs_int, tyP_str, isDct_str, rs_str, tyP_tup, isDct_tup, rs_tup, tyP_lst, isDct_lst, rs_lst, tyP_rol, isDct_rol, rs_rol, tyP_dct, isDct_dct, rs_dct, asL_lst, asL_rol, asS_lst, asS_rol, asS_tup, asW_lst, asT_tup, asL_mset, asS_mset, asW_mset, refL_mset, isDct_mset, tyP_mset, rs_mset, Option.some.injEq, exists_eq_left', true_and, and_true, Bool.not_true, Bool.not_false, Bool.false_eq_true, if_true, if_false, ite_true, ite_false, String.reduceBEq, Bool.or_false, Bool.or_true, Bool.false_or, Bool.true_or, Bool.and_false, Bool.and_true, Bool.true_and, Bool.false_and, reduceIte, PV.int.injEq, exists_const, PV.tup.injEq, PV.lst.injEq, PV.ref.injEq, PV.ty.injEq, zIn, List.all_cons, List.all_nil, List.any_cons, List.any_nil, atP_0, atP_1, atP_2, flat_ints, Zz.any_ints, Nat.zero_le, IC.v, Nat.reduceLeDiff, forall_const, mset_mset, not_true_eq_false, not_false_eq_true, cpow9, pow9, cpow18, pow18, cpow30, pow30, ex2, Bool.true_eq_false, Int.cast_ofNat_Int, Int.ofNat_eq_natCast, flatP_non, flatP_bl, flatP_int, flatP_str, flatP_tup, flatP_lst, flatP_dct, eqF_ss, eqF_ii, eqF_bb, zB_Add_i, zB_Sub_i, zB_Mult_i, zB_FloorDiv_i, zB_Mod_i, zB_Pow_i, zB_BitAnd_i, zB_BitOr_i, zB_Add_s, zB_Add_t, zB_Add_l, zB_Mul_l, zIx_tup, zIx_lst, zIx_rol, zIx_str, zIx_mset, zLen_tup, zLen_lst, zLen_rol, zLen_str, zLen_mset, zInt_i, zInt_b, zTuple_t, zTuple_l, zTuple_m, zMax_ii, zMin_ii, zNeg_i, zNotV_b, zAllAny_l, wL_mset, szl0, szl1, szl2, szl3, szl4, szl5, szl6, szl7, szl8, szl9, szl10, szl11, szl12, szl13, szl14, szl15, szl16, szl17, szl18, szl19, szl20, szl21, szl22, szl23, szl24, szl25, szl26, szl27, szl28, szl29, szl30, szl31, szl32, szl33, szl34, szl35, szl36, szl37, szl38, szl39, szl40, szl41, szl42, szl43, szl44, szl45, szl46, szl47, szl48, szl49, szl50, szl51, szl52, szl53, szl54, szl55, szl56, szl57, szl58, szl59, szl60, szl61, szl62, szl63, szl64, szl65, szl66, szl67, szl68, szl69, frzV_ref, zfrz, Option.map_some, Option.map_none, frzV_non, frzV_bl, frzV_int, frzV_str, frzV_tup, frzV_lst, frzV_rol, frzV_dct]; exact ret_same (by simpa [isPart] using q)
    | [a, b], h, q =>
      simp only [zsp, zSs, zS, zE, zEs, zT, zBoVs, zBoTs, zA, zIfs, zI, zO, zG, zGs, zsCons, zsNil, zsIf, zsRet, zsRetN, zsExpr, zsAsg, zsPar, zsFor, zsSet, zsSetL, zsPass, zsBreak, zsCont, zsFrz, zEnds, zstart, z1, z2, zVar, zGet, zCst, zChain_eq, onB_bl, tOf, zNotT, zBoT, zBoV, zIf, zNil, zCons, zTup, zPart, zNoPart, zSl, zSlL, zCB, zCBL, zBF, zLM, LM.ty, IC.pv, zAbs, zList, zIsi, zVal, zRng1, zRng2, zEnum, Zz.gNm, Zz.gNil, Zz.gCons, Zz.gTup, zCall, zMt, zAppend, zExtend, zInsert, zPop, zReverse, zRev, zDct0, zDctK, zDctT, zYes, zLc, zwipe, zCmp, zEq, zIs, isNonP, List.map_cons, List.map_nil, List.cons_append, List.nil_append, List.replicate_succ, List.replicate_zero, List.length_cons, List.length_nil, List.set_cons_zero, List.set_cons_succ, List.getElem?_cons_zero, List.getElem?_cons_succ, Option.join_some, Nat.reduceAdd, Nat.reduceSub, Nat.zero_add, isiB, Bool.not_eq_true', decide_eq_false_iff_not, decide_eq_true_eq,  tyP_non, isDct_non, rs_non, tyP_bl, isDct_bl, rs_bl, tyP_int, isDct_int, rs_int, tyP_str, isDct_str, rs_str, tyP_tup, isDct_tup, rs_tup, tyP_lst, isDct_lst, rs_lst, tyP_rol, isDct_rol, rs_rol, tyP_dct, isDct_dct, rs_dct, asL_lst, asL_rol, asS_lst, asS_rol, asS_tup, asW_lst, asT_tup, asL_mset, asS_mset, asW_mset, refL_mset, isDct_mset, tyP_mset, rs_mset, Option.some.injEq, exists_eq_left', true_and, and_true, Bool.not_true, Bool.not_false, Bool.false_eq_true, if_true, if_false, ite_true, ite_false, String.reduceBEq, Bool.or_false, Bool.or_true, Bool.false_or, Bool.true_or, Bool.and_false, Bool.and_true, Bool.true_and, Bool.false_and, reduceIte, PV.int.injEq, exists_const, PV.tup.injEq, PV.lst.injEq, PV.ref.injEq, PV.ty.injEq, zIn, List.all_cons, List.all_nil, List.any_cons, List.any_nil, atP_0, atP_1, atP_2, flat_ints, Zz.any_ints, Nat.zero_le, IC.v, Nat.reduceLeDiff, forall_const, mset_mset, not_true_eq_false, not_false_eq_true, cpow9, pow9, cpow18, pow18, cpow30, pow30, ex2, Bool.true_eq_false, Int.cast_ofNat_Int, Int.ofNat_eq_natCast, flatP_non, flatP_bl, flatP_int, flatP_str, flatP_tup, flatP_lst, flatP_dct, eqF_ss, eqF_ii, eqF_bb, zB_Add_i, zB_Sub_i, zB_Mult_i, zB_FloorDiv_i, zB_Mod_i, zB_Pow_i, zB_BitAnd_i, zB_BitOr_i, zB_Add_s, zB_Add_t, zB_Add_l, zB_Mul_l, zIx_tup, zIx_lst, zIx_rol, zIx_str, zIx_mset, zLen_tup, zLen_lst, zLen_rol, zLen_str, zLen_mset, zInt_i, zInt_b, zTuple_t, zTuple_l, zTuple_m, zMax_ii, zMin_ii, zNeg_i, zNotV_b, zAllAny_l, wL_mset, szl0, szl1, szl2, szl3, szl4, szl5, szl6, szl7, szl8, szl9, szl10, szl11, szl12, szl13, szl14, szl15, szl16, szl17, szl18, szl19, szl20, szl21, szl22, szl23, szl24, szl25, szl26, szl27, szl28, szl29, szl30, szl31, szl32, szl33, szl34, szl35, szl36, szl37, szl38, szl39, szl40, szl41, szl42, szl43, szl44, szl45, szl46, szl47, szl48, szl49, szl50, szl51, szl52, szl53, szl54, szl55, szl56, szl57, szl58, szl59, szl60, szl61, szl62, szl63, szl64, szl65, szl66, szl67, szl68, szl69, frzV_ref, zfrz, Option.map_some, Option.map_none, frzV_non, frzV_bl, frzV_int, frzV_str, frzV_tup, frzV_lst, frzV_rol, frzV_dct]
      have ha : pl a = true := pls_mem h a (by simp)
      have hb : pl b = true := pls_mem h b (by simp)
      refine sp_is_whole E ha ?_
      cases a with
      | int n =>
        simp only [isWhole, zsp, zSs, zS, zE, zEs, zT, zBoVs, zBoTs, zA, zIfs, zI, zO, zG, zGs, zsCons, zsNil, zsIf, zsRet, zsRetN, zsExpr, zsAsg, zsPar, zsFor, zsSet, zsSetL, zsPass, zsBreak, zsCont, zsFrz, zEnds, zstart, z1, z2, zVar, zGet, zCst, zChain_eq, onB_bl, tOf, zNotT, zBoT, zBoV, zIf, zNil, zCons, zTup, zPart, zNoPart, zSl, zSlL, zCB, zCBL, zBF, zLM, LM.ty, IC.pv, zAbs, zList, zIsi, zVal, zRng1, zRng2, zEnum, Zz.gNm, Zz.gNil, Zz.gCons, Zz.gTup, zCall, zMt, zAppend, zExtend, zInsert, zPop, zReverse, zRev, zDct0, zDctK, zDctT, zYes, zLc, zwipe, zCmp, zEq, zIs, isNonP, List.map_cons, List.map_nil, List.cons_append, List.nil_append, List.replicate_succ, List.replicate_zero, List.length_cons, List.length_nil, List.set_cons_zero, List.set_cons_succ, List.getElem?_cons_zero, List.getElem?_cons_succ, Option.join_some, Nat.reduceAdd, Nat.reduceSub, Nat.zero_add, isiB, Bool.not_eq_true', decide_eq_false_iff_not, decide_eq_true_eq,  tyP_non, isDct_non, rs_non, tyP_bl, isDct_bl, rs_bl, tyP_int, isDct_int, rs_int, tyP_str, isDct_str, rs_str, tyP_tup, isDct_tup, rs_tup, tyP_lst, isDct_lst, rs_lst, tyP_rol, isDct_rol, rs_rol, tyP_dct, isDct_dct, rs_dct, asL_lst, asL_rol, asS_lst, asS_rol, asS_tup, asW_lst, asT_tup, asL_mset, asS_mset, asW_mset, refL_mset, isDct_mset, tyP_mset, rs_mset, Option.some.injEq, exists_eq_left', true_and, and_true, Bool.not_true, Bool.not_false, Bool.false_eq_true, if_true, if_false, ite_true, ite_false, String.reduceBEq, Bool.or_false, Bool.or_true, Bool.false_or, Bool.true_or, Bool.and_false, Bool.and_true, Bool.true_and, Bool.false_and, reduceIte, PV.int.injEq, exists_const, PV.tup.injEq, PV.lst.injEq, PV.ref.injEq, PV.ty.injEq, zIn, List.all_cons, List.all_nil, List.any_cons, List.any_nil, atP_0, atP_1, atP_2, flat_ints, Zz.any_ints, Nat.zero_le, IC.v, Nat.reduceLeDiff, forall_const, mset_mset, not_true_eq_false, not_false_eq_true, cpow9, pow9, cpow18, pow18, cpow30, pow30, ex2, Bool.true_eq_false, Int.cast_ofNat_Int, Int.ofNat_eq_natCast, flatP_non, flatP_bl, flatP_int, flatP_str, flatP_tup, flatP_lst, flatP_dct, eqF_ss, eqF_ii, eqF_bb, zB_Add_i, zB_Sub_i, zB_Mult_i, zB_FloorDiv_i, zB_Mod_i, zB_Pow_i, zB_BitAnd_i, zB_BitOr_i, zB_Add_s, zB_Add_t, zB_Add_l, zB_Mul_l, zIx_tup, zIx_lst, zIx_rol, zIx_str, zIx_mset, zLen_tup, zLen_lst, zLen_rol, zLen_str, zLen_mset, zInt_i, zInt_b, zTuple_t, zTuple_l, zTuple_m, zMax_ii, zMin_ii, zNeg_i, zNotV_b, zAllAny_l, wL_mset, szl0, szl1, szl2, szl3, szl4, szl5, szl6, szl7, szl8, szl9, szl10, szl11, szl12, szl13, szl14, szl15, szl16, szl17, szl18, szl19, szl20, szl21, szl22, szl23, szl24, szl25, szl26, szl27, szl28, szl29, szl30, szl31, szl32, szl33, szl34, szl35, szl36, szl37, szl38, szl39, szl40, szl41, szl42, szl43, szl44, szl45, szl46, szl47, szl48, szl49, szl50, szl51, szl52, szl53, szl54, szl55, szl56, szl57, szl58, szl59, szl60, szl61, szl62, szl63, szl64, szl65, szl66, szl67, szl68, szl69, frzV_ref, zfrz, Option.map_some, Option.map_none, frzV_non, frzV_bl, frzV_int, frzV_str, frzV_tup, frzV_lst, frzV_rol, frzV_dct]
        cases b with
        | str w =>
          simp only [zsp, zSs, zS, zE, zEs, zT, zBoVs, zBoTs, zA, zIfs, zI, zO, zG, zGs, zsCons, zsNil, zsIf, zsRet, zsRetN, zsExpr, zsAsg, zsPar, zsFor, zsSet, zsSetL, zsPass, zsBreak, zsCont, zsFrz, zEnds, zstart, z1, z2, zVar, zGet, zCst, zChain_eq, onB_bl, tOf, zNotT, zBoT, zBoV, zIf, zNil, zCons, zTup, zPart, zNoPart, zSl, zSlL, zCB, zCBL, zBF, zLM, LM.ty, IC.pv, zAbs, zList, zIsi, zVal, zRng1, zRng2, zEnum, Zz.gNm, Zz.gNil, Zz.gCons, Zz.gTup, zCall, zMt, zAppend, zExtend, zInsert, zPop, zReverse, zRev, zDct0, zDctK, zDctT, zYes, zLc, zwipe, zCmp, zEq, zIs, isNonP, List.map_cons, List.map_nil, List.cons_append, List.nil_append, List.replicate_succ, List.replicate_zero, List.length_cons, List.length_nil, List.set_cons_zero, List.set_cons_succ, List.getElem?_cons_zero, List.getElem?_cons_succ, Option.join_some, Nat.reduceAdd, Nat.reduceSub, Nat.zero_add, isiB, Bool.not_eq_true', decide_eq_false_iff_not, decide_eq_true_eq,  tyP_non, isDct_non, rs_non, tyP_bl, isDct_bl, rs_bl, tyP_int, isDct_int, rs_int, tyP_str, isDct_str, rs_str, tyP_tup, isDct_tup, rs_tup, tyP_lst, isDct_lst, rs_lst, tyP_rol, isDct_rol, rs_rol, tyP_dct, isDct_dct, rs_dct, asL_lst, asL_rol, asS_lst, asS_rol, asS_tup, asW_lst, asT_tup, asL_mset, asS_mset, asW_mset, refL_mset, isDct_mset, tyP_mset, rs_mset, Option.some.injEq, exists_eq_left', true_and, and_true, Bool.not_true, Bool.not_false, Bool.false_eq_true, if_true, if_false, ite_true, ite_false, String.reduceBEq, Bool.or_false, Bool.or_true, Bool.false_or, Bool.true_or, Bool.and_false, Bool.and_true, Bool.true_and, Bool.false_and, reduceIte, PV.int.injEq, exists_const, PV.tup.injEq, PV.lst.injEq, PV.ref.injEq, PV.ty.injEq, zIn, List.all_cons, List.all_nil, List.any_cons, List.any_nil, atP_0, atP_1, atP_2, flat_ints, Zz.any_ints, Nat.zero_le, IC.v, Nat.reduceLeDiff, forall_const, mset_mset, not_true_eq_false, not_false_eq_true, cpow9, pow9, cpow18, pow18, cpow30, pow30, ex2, Bool.true_eq_false, Int.cast_ofNat_Int, Int.ofNat_eq_natCast, flatP_non, flatP_bl, flatP_int, flatP_str, flatP_tup, flatP_lst, flatP_dct, eqF_ss, eqF_ii, eqF_bb, zB_Add_i, zB_Sub_i, zB_Mult_i, zB_FloorDiv_i, zB_Mod_i, zB_Pow_i, zB_BitAnd_i, zB_BitOr_i, zB_Add_s, zB_Add_t, zB_Add_l, zB_Mul_l, zIx_tup, zIx_lst, zIx_rol, zIx_str, zIx_mset, zLen_tup, zLen_lst, zLen_rol, zLen_str, zLen_mset, zInt_i, zInt_b, zTuple_t, zTuple_l, zTuple_m, zMax_ii, zMin_ii, zNeg_i, zNotV_b, zAllAny_l, wL_mset, szl0, szl1, szl2, szl3, szl4, szl5, szl6, szl7, szl8, szl9, szl10, szl11, szl12, szl13, szl14, szl15, szl16, szl17, szl18, szl19, szl20, szl21, szl22, szl23, szl24, szl25, szl26, szl27, szl28, szl29, szl30, szl31, szl32, szl33, szl34, szl35, szl36, szl37, szl38, szl39, szl40, szl41, szl42, szl43, szl44, szl45, szl46, szl47, szl48, szl49, szl50, szl51, szl52, szl53, szl54, szl55, szl56, szl57, szl58, szl59, szl60, szl61, szl62, szl63, szl64, szl65, szl66, szl67, szl68, szl69, frzV_ref, zfrz, Option.map_some, Option.map_none, frzV_non, frzV_bl, frzV_int, frzV_str, frzV_tup, frzV_lst, frzV_rol, frzV_dct]
          by_cases h1 : 1 ≤ n <;> by_cases h2 : n ≤ 4 <;> simp only [h1, h2, zsp, zSs, zS, zE, zEs, zT, zBoVs, zBoTs, zA, zIfs, zI, zO, zG, zGs, zsCons, zsNil, zsIf, zsRet, zsRetN, zsExpr, zsAsg, zsPar, zsFor, zsSet, zsSetL, zsPass, zsBreak, zsCont, zsFrz, zEnds, zstart, z1, z2, zVar, zGet, zCst, zChain_eq, onB_bl, tOf, zNotT, zBoT, zBoV, zIf, zNil, zCons, zTup, zPart, zNoPart, zSl, zSlL, zCB, zCBL, zBF, zLM, LM.ty, IC.pv, zAbs, zList, zIsi, zVal, zRng1, zRng2, zEnum, Zz.gNm, Zz.gNil, Zz.gCons, Zz.gTup, zCall, zMt, zAppend, zExtend, zInsert, zPop, zReverse, zRev, zDct0, zDctK, zDctT, zYes, zLc, zwipe, zCmp, zEq, zIs, isNonP, List.map_cons, List.map_nil, List.cons_append, List.nil_append, List.replicate_succ, List.replicate_zero, List.length_cons, List.length_nil, List.set_cons_zero, List.set_cons_succ, List.getElem?_cons_zero, List.getElem?_cons_succ, Option.join_some, Nat.reduceAdd, Nat.reduceSub, Nat.zero_add, isiB, Bool.not_eq_true', decide_eq_false_iff_not, decide_eq_true_eq,  tyP_non, isDct_non, rs_non, tyP_bl, isDct_bl, rs_bl, tyP_int, isDct_int, rs_int, tyP_str, isDct_str, rs_str, tyP_tup, isDct_tup, rs_tup, tyP_lst, isDct_lst, rs_lst, tyP_rol, isDct_rol, rs_rol, tyP_dct, isDct_dct, rs_dct, asL_lst, asL_rol, asS_lst, asS_rol, asS_tup, asW_lst, asT_tup, asL_mset, asS_mset, asW_mset, refL_mset, isDct_mset, tyP_mset, rs_mset, Option.some.injEq, exists_eq_left', true_and, and_true, Bool.not_true, Bool.not_false, Bool.false_eq_true, if_true, if_false, ite_true, ite_false, String.reduceBEq, Bool.or_false, Bool.or_true, Bool.false_or, Bool.true_or, Bool.and_false, Bool.and_true, Bool.true_and, Bool.false_and, reduceIte, PV.int.injEq, exists_const, PV.tup.injEq, PV.lst.injEq, PV.ref.injEq, PV.ty.injEq, zIn, List.all_cons, List.all_nil, List.any_cons, List.any_nil, atP_0, atP_1, atP_2, flat_ints, Zz.any_ints, Nat.zero_le, IC.v, Nat.reduceLeDiff, forall_const, mset_mset, not_true_eq_false, not_false_eq_true, cpow9, pow9, cpow18, pow18, cpow30, pow30, ex2, Bool.true_eq_false, Int.cast_ofNat_Int, Int.ofNat_eq_natCast, flatP_non, flatP_bl, flatP_int, flatP_str, flatP_tup, flatP_lst, flatP_dct, eqF_ss, eqF_ii, eqF_bb, zB_Add_i, zB_Sub_i, zB_Mult_i, zB_FloorDiv_i, zB_Mod_i, zB_Pow_i, zB_BitAnd_i, zB_BitOr_i, zB_Add_s, zB_Add_t, zB_Add_l, zB_Mul_l, zIx_tup, zIx_lst, zIx_rol, zIx_str, zIx_mset, zLen_tup, zLen_lst, zLen_rol, zLen_str, zLen_mset, zInt_i, zInt_b, zTuple_t, zTuple_l, zTuple_m, zMax_ii, zMin_ii, zNeg_i, zNotV_b, zAllAny_l, wL_mset, szl0, szl1, szl2, szl3, szl4, szl5, szl6, szl7, szl8, szl9, szl10, szl11, szl12, szl13, szl14, szl15, szl16, szl17, szl18, szl19, szl20, szl21, szl22, szl23, szl24, szl25, szl26, szl27, szl28, szl29, szl30, szl31, szl32, szl33, szl34, szl35, szl36, szl37, szl38, szl39, szl40, szl41, szl42, szl43, szl44, szl45, szl46, szl47, szl48, szl49, szl50, szl51, szl52, szl53, szl54, szl55, szl56, szl57, szl58, szl59, szl60, szl61, szl62, szl63, szl64, szl65, szl66, szl67, szl68, szl69, frzV_ref, zfrz, Option.map_some, Option.map_none, frzV_non, frzV_bl, frzV_int, frzV_str, frzV_tup, frzV_lst, frzV_rol, frzV_dct]
          · refine ret_same ?_
            simpa [isPart, h1, h2, up, down] using q
          all_goals exact ret_same (by simpa [isPart, h1, h2] using q)
        | _ =>
          try simp only [zsp, zSs, zS, zE, zEs, zT, zBoVs, zBoTs, zA, zIfs, zI, zO, zG, zGs, zsCons, zsNil, zsIf, zsRet, zsRetN, zsExpr, zsAsg, zsPar, zsFor, zsSet, zsSetL, zsPass, zsBreak, zsCont, zsFrz, zEnds, zstart, z1, z2, zVar, zGet, zCst, zChain_eq, onB_bl, tOf, zNotT, zBoT, zBoV, zIf, zNil, zCons, zTup, zPart, zNoPart, zSl, zSlL, zCB, zCBL, zBF, zLM, LM.ty, IC.pv, zAbs, zList, zIsi, zVal, zRng1, zRng2, zEnum, Zz.gNm, Zz.gNil, Zz.gCons, Zz.gTup, zCall, zMt, zAppend, zExtend, zInsert, zPop, zReverse, zRev, zDct0, zDctK, zDctT, zYes, zLc, zwipe, zCmp, zEq, zIs, isNonP, List.map_cons, List.map_nil, List.cons_append, List.nil_append, List.replicate_succ, List.replicate_zero, List.length_cons, List.length_nil, List.set_cons_zero, List.set_cons_succ, List.getElem?_cons_zero, List.getElem?_cons_succ, Option.join_some, Nat.reduceAdd, Nat.reduceSub, Nat.zero_add, isiB, Bool.not_eq_true', decide_eq_false_iff_not, decide_eq_true_eq,  tyP_non, isDct_non, rs_non, tyP_bl, isDct_bl, rs_bl, tyP_int, isDct_int, rs_int, tyP_str, isDct_str, rs_str, tyP_tup, isDct_tup, rs_tup, tyP_lst, isDct_lst, rs_lst, tyP_rol, isDct_rol, rs_rol, tyP_dct, isDct_dct, rs_dct, asL_lst, asL_rol, asS_lst, asS_rol, asS_tup, asW_lst, asT_tup, asL_mset, asS_mset, asW_mset, refL_mset, isDct_mset, tyP_mset, rs_mset, Option.some.injEq, exists_eq_left', true_and, and_true, Bool.not_true, Bool.not_false, Bool.false_eq_true, if_true, if_false, ite_true, ite_false, String.reduceBEq, Bool.or_false, Bool.or_true, Bool.false_or, Bool.true_or, Bool.and_false, Bool.and_true, Bool.true_and, Bool.false_and, reduceIte, PV.int.injEq, exists_const, PV.tup.injEq, PV.lst.injEq, PV.ref.injEq, PV.ty.injEq, zIn, List.all_cons, List.all_nil, List.any_cons, List.any_nil, atP_0, atP_1, atP_2, flat_ints, Zz.any_ints, Nat.zero_le, IC.v, Nat.reduceLeDiff, forall_const, mset_mset, not_true_eq_false, not_false_eq_true, cpow9, pow9, cpow18, pow18, cpow30, pow30, ex2, Bool.true_eq_false, Int.cast_ofNat_Int, Int.ofNat_eq_natCast, flatP_non, flatP_bl, flatP_int, flatP_str, flatP_tup, flatP_lst, flatP_dct, eqF_ss, eqF_ii, eqF_bb, zB_Add_i, zB_Sub_i, zB_Mult_i, zB_FloorDiv_i, zB_Mod_i, zB_Pow_i, zB_BitAnd_i, zB_BitOr_i, zB_Add_s, zB_Add_t, zB_Add_l, zB_Mul_l, zIx_tup, zIx_lst, zIx_rol, zIx_str, zIx_mset, zLen_tup, zLen_lst, zLen_rol, zLen_str, zLen_mset, zInt_i, zInt_b, zTuple_t, zTuple_l, zTuple_m, zMax_ii, zMin_ii, zNeg_i, zNotV_b, zAllAny_l, wL_mset, szl0, szl1, szl2, szl3, szl4, szl5, szl6, szl7, szl8, szl9, szl10, szl11, szl12, szl13, szl14, szl15, szl16, szl17, szl18, szl19, szl20, szl21, szl22, szl23, szl24, szl25, szl26, szl27, szl28, szl29, szl30, szl31, szl32, szl33, szl34, szl35, szl36, szl37, szl38, szl39, szl40, szl41, szl42, szl43, szl44, szl45, szl46, szl47, szl48, szl49, szl50, szl51, szl52, szl53, szl54, szl55, szl56, szl57, szl58, szl59, szl60, szl61, szl62, szl63, szl64, szl65, szl66, szl67, szl68, szl69, frzV_ref, zfrz, Option.map_some, Option.map_none, frzV_non, frzV_bl, frzV_int, frzV_str, frzV_tup, frzV_lst, frzV_rol, frzV_dct]
          first | exact ret_same q | (simp [pl] at hb; done)
      | _ =>
        simp only [isWhole, zsp, zSs, zS, zE, zEs, zT, zBoVs, zBoTs, zA, zIfs, zI, zO, zG, zGs, zsCons, zsNil, zsIf, zsRet, zsRetN, zsExpr, zsAsg, zsPar, zsFor, zsSet, zsSetL, zsPass, zsBreak, zsCont, zsFrz, zEnds, zstart, z1, z2, zVar, zGet, zCst, zChain_eq, onB_bl, tOf, zNotT, zBoT, zBoV, zIf, zNil, zCons, zTup, zPart, zNoPart, zSl, zSlL, zCB, zCBL, zBF, zLM, LM.ty, IC.pv, zAbs, zList, zIsi, zVal, zRng1, zRng2, zEnum, Zz.gNm, Zz.gNil, Zz.gCons, Zz.gTup, zCall, zMt, zAppend, zExtend, zInsert, zPop, zReverse, zRev, zDct0, zDctK, zDctT, zYes, zLc, zwipe, zCmp, zEq, zIs, isNonP, List.map_cons, List.map_nil, List.cons_append, List.nil_append, List.replicate_succ, List.replicate_zero, List.length_cons, List.length_nil, List.set_cons_zero, List.set_cons_succ, List.getElem?_cons_zero, List.getElem?_cons_succ, Option.join_some, Nat.reduceAdd, Nat.reduceSub, Nat.zero_add, isiB, Bool.not_eq_true', decide_eq_false_iff_not, decide_eq_true_eq,  tyP_non, isDct_non, rs_non, tyP_bl, isDct_bl, rs_bl, tyP_int, isDct_int, rs_int, tyP_str, isDct_str, rs_str, tyP_tup, isDct_tup, rs_tup, tyP_lst, isDct_lst, rs_lst, tyP_rol, isDct_rol, rs_rol, tyP_dct, isDct_dct, rs_dct, asL_lst, asL_rol, asS_lst, asS_rol, asS_tup, asW_lst, asT_tup, asL_mset, asS_mset, asW_mset, refL_mset, isDct_mset, tyP_mset, rs_mset, Option.some.injEq, exists_eq_left', true_and, and_true, Bool.not_true, Bool.not_false, Bool.false_eq_true, if_true, if_false, ite_true, ite_false, String.reduceBEq, Bool.or_false, Bool.or_true, Bool.false_or, Bool.true_or, Bool.and_false, Bool.and_true, Bool.true_and, Bool.false_and, reduceIte, PV.int.injEq, exists_const, PV.tup.injEq, PV.lst.injEq, PV.ref.injEq, PV.ty.injEq, zIn, List.all_cons, List.all_nil, List.any_cons, List.any_nil, atP_0, atP_1, atP_2, flat_ints, Zz.any_ints, Nat.zero_le, IC.v, Nat.reduceLeDiff, forall_const, mset_mset, not_true_eq_false, not_false_eq_true, cpow9, pow9, cpow18, pow18, cpow30, pow30, ex2, Bool.true_eq_false, Int.cast_ofNat_Int, Int.ofNat_eq_natCast, flatP_non, flatP_bl, flatP_int, flatP_str, flatP_tup, flatP_lst, flatP_dct, eqF_ss, eqF_ii, eqF_bb, zB_Add_i, zB_Sub_i, zB_Mult_i, zB_FloorDiv_i, zB_Mod_i, zB_Pow_i, zB_BitAnd_i, zB_BitOr_i, zB_Add_s, zB_Add_t, zB_Add_l, zB_Mul_l, zIx_tup, zIx_lst, zIx_rol, zIx_str, zIx_mset, zLen_tup, zLen_lst, zLen_rol, zLen_str, zLen_mset, zInt_i, zInt_b, zTuple_t, zTuple_l, zTuple_m, zMax_ii, zMin_ii, zNeg_i, zNotV_b, zAllAny_l, wL_mset, szl0, szl1, szl2, szl3, szl4, szl5, szl6, szl7, szl8, szl9, szl10, szl11, szl12, szl13, szl14, szl15, szl16, szl17, szl18, szl19, szl20, szl21, szl22, szl23, szl24, szl25, szl26, szl27, szl28, szl29, szl30, szl31, szl32, szl33, szl34, szl35, szl36, szl37, szl38, szl39, szl40, szl41, szl42, szl43, szl44, szl45, szl46, szl47, szl48, szl49, szl50, szl51, szl52, szl53, szl54, szl55, szl56, szl57, szl58, szl59, szl60, szl61, szl62, szl63, szl64, szl65, szl66, szl67, szl68, szl69, frzV_ref, zfrz, Option.map_some, Option.map_none, frzV_non, frzV_bl, frzV_int, frzV_str, frzV_tup, frzV_lst, frzV_rol, frzV_dct]
        first | exact ret_same (by simpa [isPart] using q) | (simp [pl] at ha; done)
    | a :: b :: c :: r, h, q =>
      have e : decide (((a :: b :: c :: r).length : Int) = 2) = false := by simp; omega
      simp only [e, zsp, zSs, zS, zE, zEs, zT, zBoVs, zBoTs, zA, zIfs, zI, zO, zG, zGs, zsCons, zsNil, zsIf, zsRet, zsRetN, zsExpr, zsAsg, zsPar, zsFor, zsSet, zsSetL, zsPass, zsBreak, zsCont, zsFrz, zEnds, zstart, z1, z2, zVar, zGet, zCst, zChain_eq, onB_bl, tOf, zNotT, zBoT, zBoV, zIf, zNil, zCons, zTup, zPart, zNoPart, zSl, zSlL, zCB, zCBL, zBF, zLM, LM.ty, IC.pv, zAbs, zList, zIsi, zVal, zRng1, zRng2, zEnum, Zz.gNm, Zz.gNil, Zz.gCons, Zz.gTup, zCall, zMt, zAppend, zExtend, zInsert, zPop, zReverse, zRev, zDct0, zDctK, zDctT, zYes, zLc, zwipe, zCmp, zEq, zIs, isNonP, List.map_cons, List.map_nil, List.cons_append, List.nil_append, List.replicate_succ, List.replicate_zero, List.length_cons, List.length_nil, List.set_cons_zero, List.set_cons_succ, List.getElem?_cons_zero, List.getElem?_cons_succ, Option.join_some, Nat.reduceAdd, Nat.reduceSub, Nat.zero_add, isiB, Bool.not_eq_true', decide_eq_false_iff_not, decide_eq_true_eq,  tyP_non, isDct_non, rs_non, tyP_bl, isDct_bl, rs_bl, tyP_int, isDct_int, rs_int, tyP_str, isDct_str, rs_str, tyP_tup, isDct_tup, rs_tup, tyP_lst, isDct_lst, rs_lst, tyP_rol, isDct_rol, rs_rol, tyP_dct, isDct_dct, rs_dct, asL_lst, asL_rol, asS_lst, asS_rol, asS_tup, asW_lst, asT_tup, asL_mset, asS_mset, asW_mset, refL_mset, isDct_mset, tyP_mset, rs_mset, Option.some.injEq, exists_eq_left', true_and, and_true, Bool.not_true, Bool.not_false, Bool.false_eq_true, if_true, if_false, ite_true, ite_false, String.reduceBEq, Bool.or_false, Bool.or_true, Bool.false_or, Bool.true_or, Bool.and_false, Bool.and_true, Bool.true_and, Bool.false_and, reduceIte, PV.int.injEq, exists_const, PV.tup.injEq, PV.lst.injEq, PV.ref.injEq, PV.ty.injEq, zIn, List.all_cons, List.all_nil, List.any_cons, List.any_nil, atP_0, atP_1, atP_2, flat_ints, Zz.any_ints, Nat.zero_le, IC.v, Nat.reduceLeDiff, forall_const, mset_mset, not_true_eq_false, not_false_eq_true, cpow9, pow9, cpow18, pow18, cpow30, pow30, ex2, Bool.true_eq_false, Int.cast_ofNat_Int, Int.ofNat_eq_natCast, flatP_non, flatP_bl, flatP_int, flatP_str, flatP_tup, flatP_lst, flatP_dct, eqF_ss, eqF_ii, eqF_bb, zB_Add_i, zB_Sub_i, zB_Mult_i, zB_FloorDiv_i, zB_Mod_i, zB_Pow_i, zB_BitAnd_i, zB_BitOr_i, zB_Add_s, zB_Add_t, zB_Add_l, zB_Mul_l, zIx_tup, zIx_lst, zIx_rol, zIx_str, zIx_mset, zLen_tup, zLen_lst, zLen_rol, zLen_str, zLen_mset, zInt_i, zInt_b, zTuple_t, zTuple_l, zTuple_m, zMax_ii, zMin_ii, zNeg_i, zNotV_b, zAllAny_l, wL_mset, szl0, szl1, szl2, szl3, szl4, szl5, szl6, szl7, szl8, szl9, szl10, szl11, szl12, szl13, szl14, szl15, szl16, szl17, szl18, szl19, szl20, szl21, szl22, szl23, szl24, szl25, szl26, szl27, szl28, szl29, szl30, szl31, szl32, szl33, szl34, szl35, szl36, szl37, szl38, szl39, szl40, szl41, szl42, szl43, szl44, szl45, szl46, szl47, szl48, szl49, szl50, szl51, szl52, szl53, szl54, szl55, szl56, szl57, szl58, szl59, szl60, szl61, szl62, szl63, szl64, szl65, szl66, szl67, szl68, szl69, frzV_ref, zfrz, Option.map_some, Option.map_none, frzV_non, frzV_bl, frzV_int, frzV_str, frzV_tup, frzV_lst, frzV_rol, frzV_dct]
      exact ret_same (by simpa [isPart] using q)
  | _ =>
    simp only [ir_is_part, N_is_part, zsp, zSs, zS, zE, zEs, zT, zBoVs, zBoTs, zA, zIfs, zI, zO, zG, zGs, zsCons, zsNil, zsIf, zsRet, zsRetN, zsExpr, zsAsg, zsPar, zsFor, zsSet, zsSetL, zsPass, zsBreak, zsCont, zsFrz, zEnds, zstart, z1, z2, zVar, zGet, zCst, zChain_eq, onB_bl, tOf, zNotT, zBoT, zBoV, zIf, zNil, zCons, zTup, zPart, zNoPart, zSl, zSlL, zCB, zCBL, zBF, zLM, LM.ty, IC.pv, zAbs, zList, zIsi, zVal, zRng1, zRng2, zEnum, Zz.gNm, Zz.gNil, Zz.gCons, Zz.gTup, zCall, zMt, zAppend, zExtend, zInsert, zPop, zReverse, zRev, zDct0, zDctK, zDctT, zYes, zLc, zwipe, zCmp, zEq, zIs, isNonP, List.map_cons, List.map_nil, List.cons_append, List.nil_append, List.replicate_succ, List.replicate_zero, List.length_cons, List.length_nil, List.set_cons_zero, List.set_cons_succ, List.getElem?_cons_zero, List.getElem?_cons_succ, Option.join_some, Nat.reduceAdd, Nat.reduceSub, Nat.zero_add, isiB, Bool.not_eq_true', decide_eq_false_iff_not, decide_eq_true_eq,  tyP_non, isDct_non, rs_non, tyP_bl, isDct_bl, rs_bl, tyP_int, isDct_int, rs_int, tyP_str, isDct_str, rs_str, tyP_tup, isDct_tup, rs_tup, tyP_lst, isDct_lst, rs_lst, tyP_rol, isDct_rol, rs_rol, tyP_dct, isDct_dct, rs_dct, asL_lst, asL_rol, asS_lst, asS_rol, asS_tup, asW_lst, asT_tup, asL_mset, asS_mset, asW_mset, refL_mset, isDct_mset, tyP_mset, rs_mset, Option.some.injEq, exists_eq_left', true_and, and_true, Bool.not_true, Bool.not_false, Bool.false_eq_true, if_true, if_false, ite_true, ite_false, String.reduceBEq, Bool.or_false, Bool.or_true, Bool.false_or, Bool.true_or, Bool.and_false, Bool.and_true, Bool.true_and, Bool.false_and, reduceIte, PV.int.injEq, exists_const, PV.tup.injEq, PV.lst.injEq, PV.ref.injEq, PV.ty.injEq, zIn, List.all_cons, List.all_nil, List.any_cons, List.any_nil, atP_0, atP_1, atP_2, flat_ints, Zz.any_ints, Nat.zero_le, IC.v, Nat.reduceLeDiff, forall_const, mset_mset, not_true_eq_false, not_false_eq_true, cpow9, pow9, cpow18, pow18, cpow30, pow30, ex2, Bool.true_eq_false, Int.cast_ofNat_Int, Int.ofNat_eq_natCast, flatP_non, flatP_bl, flatP_int, flatP_str, flatP_tup, flatP_lst, flatP_dct, eqF_ss, eqF_ii, eqF_bb, zB_Add_i, zB_Sub_i, zB_Mult_i, zB_FloorDiv_i, zB_Mod_i, zB_Pow_i, zB_BitAnd_i, zB_BitOr_i, zB_Add_s, zB_Add_t, zB_Add_l, zB_Mul_l, zIx_tup, zIx_lst, zIx_rol, zIx_str, zIx_mset, zLen_tup, zLen_lst, zLen_rol, zLen_str, zLen_mset, zInt_i, zInt_b, zTuple_t, zTuple_l, zTuple_m, zMax_ii, zMin_ii, zNeg_i, zNotV_b, zAllAny_l, wL_mset, szl0, szl1, szl2, szl3, szl4, szl5, szl6, szl7, szl8, szl9, szl10, szl11, szl12, szl13, szl14, szl15, szl16, szl17, szl18, szl19, szl20, szl21, szl22, szl23, szl24, szl25, szl26, szl27, szl28, szl29, szl30, szl31, szl32, szl33, szl34, szl35, szl36, szl37, szl38, szl39, szl40, szl41, szl42, szl43, szl44, szl45, szl46, szl47, szl48, szl49, szl50, szl51, szl52, szl53, szl54, szl55, szl56, szl57, szl58, szl59, szl60, szl61, szl62, szl63, szl64, szl65, szl66, szl67, szl68, szl69, frzV_ref, zfrz, Option.map_some, Option.map_none, frzV_non, frzV_bl, frzV_int, frzV_str, frzV_tup, frzV_lst, frzV_rol, frzV_dct]
    first | exact ret_same q | (simp [pl] at h; done)
omit E in
theorem part_inv {p : PV} (h : isPart p = true) : ∃ n w, p = .tup [.int n, .str w] ∧ 1 ≤ n ∧ n ≤ 4 ∧ (up == w || down == w) = true := by
  unfold isPart at h
  split at h
  · rename_i n w
    simp only [Bool.and_eq_true, decide_eq_true_eq] at h
    exact ⟨n, w, rfl, h.1.1, h.1.2, h.2⟩
  · cases h
theorem sp_is_order (h : pl x = true) (q : Q (.bl (isOrder x)) M) : ZCall T (k + 3) "is_order" [x] M Q X := by
  apply call_is_order E rfl
  cases x with
  | tup ks =>
    simp only [ir_is_order, N_is_order, zsp, zSs, zS, zE, zEs, zT, zBoVs, zBoTs, zA, zIfs, zI, zO, zG, zGs, zsCons, zsNil, zsIf, zsRet, zsRetN, zsExpr, zsAsg, zsPar, zsFor, zsSet, zsSetL, zsPass, zsBreak, zsCont, zsFrz, zEnds, zstart, z1, z2, zVar, zGet, zCst, zChain_eq, onB_bl, tOf, zNotT, zBoT, zBoV, zIf, zNil, zCons, zTup, zPart, zNoPart, zSl, zSlL, zCB, zCBL, zBF, zLM, LM.ty, IC.pv, zAbs, zList, zIsi, zVal, zRng1, zRng2, zEnum, Zz.gNm, Zz.gNil, Zz.gCons, Zz.gTup, zCall, zMt, zAppend, zExtend, zInsert, zPop, zReverse, zRev, zDct0, zDctK, zDctT, zYes, zLc, zwipe, zCmp, zEq, zIs, isNonP, List.map_cons, List.map_nil, List.cons_append, List.nil_append, List.replicate_succ, List.replicate_zero, List.length_cons, List.length_nil, List.set_cons_zero, List.set_cons_succ, List.getElem?_cons_zero, List.getElem?_cons_succ, Option.join_some, Nat.reduceAdd, Nat.reduceSub, Nat.zero_add, isiB, Bool.not_eq_true', decide_eq_false_iff_not, decide_eq_true_eq,  tyP_non, isDct_non, rs_non, tyP_bl, isDct_bl, rs_bl, tyP_int, isDct_int, rs_int, tyP_str, isDct_str, rs_str, tyP_tup, isDct_tup, rs_tup, tyP_lst, isDct_lst, rs_lst, tyP_rol, isDct_rol, rs_rol, tyP_dct, isDct_dct, rs_dct, asL_lst, asL_rol, asS_lst, asS_rol, asS_tup, asW_lst, asT_tup, asL_mset, asS_mset, asW_mset, refL_mset, isDct_mset, tyP_mset, rs_mset, Option.some.injEq, exists_eq_left', true_and, and_true, Bool.not_true, Bool.not_false, Bool.false_eq_true, if_true, if_false, ite_true, ite_false, String.reduceBEq, Bool.or_false, Bool.or_true, Bool.false_or, Bool.true_or, Bool.and_false, Bool.and_true, Bool.true_and, Bool.false_and, reduceIte, PV.int.injEq, exists_const, PV.tup.injEq, PV.lst.injEq, PV.ref.injEq, PV.ty.injEq, zIn, List.all_cons, List.all_nil, List.any_cons, List.any_nil, atP_0, atP_1, atP_2, flat_ints, Zz.any_ints, Nat.zero_le, IC.v, Nat.reduceLeDiff, forall_const, mset_mset, not_true_eq_false, not_false_eq_true, cpow9, pow9, cpow18, pow18, cpow30, pow30, ex2, Bool.true_eq_false, Int.cast_ofNat_Int, Int.ofNat_eq_natCast, flatP_non, flatP_bl, flatP_int, flatP_str, flatP_tup, flatP_lst, flatP_dct, eqF_ss, eqF_ii, eqF_bb, zB_Add_i, zB_Sub_i, zB_Mult_i, zB_FloorDiv_i, zB_Mod_i, zB_Pow_i, zB_BitAnd_i, zB_BitOr_i, zB_Add_s, zB_Add_t, zB_Add_l, zB_Mul_l, zIx_tup, zIx_lst, zIx_rol, zIx_str, zIx_mset, zLen_tup, zLen_lst, zLen_rol, zLen_str, zLen_mset, zInt_i, zInt_b, zTuple_t, zTuple_l, zTuple_m, zMax_ii, zMin_ii, zNeg_i, zNotV_b, zAllAny_l, wL_mset, szl0, szl1, szl2, szl3, szl4, szl5, szl6, szl7, szl8, szl9, szl10, szl11, szl12, szl13, szl14, szl15, szl16, szl17, szl18, szl19, szl20, szl21, szl22, szl23, szl24, szl25, szl26, szl27, szl28, szl29, szl30, szl31, szl32, szl33, szl34, szl35, szl36, szl37, szl38, szl39, szl40, szl41, szl42, szl43, szl44, szl45, szl46, szl47, szl48, szl49, szl50, szl51, szl52, szl53, szl54, szl55, szl56, szl57, szl58, szl59, szl60, szl61, szl62, szl63, szl64, szl65, szl66, szl67, szl68, szl69, frzV_ref, zfrz, Option.map_some, Option.map_none, frzV_non, frzV_bl, frzV_int, frzV_str, frzV_tup, frzV_lst, frzV_rol, frzV_dct]
    by_cases h1 : 1 ≤ (ks.length : Int) <;> by_cases h2 : (ks.length : Int) ≤ 4 <;> simp only [h1, h2, zsp, zSs, zS, zE, zEs, zT, zBoVs, zBoTs, zA, zIfs, zI, zO, zG, zGs, zsCons, zsNil, zsIf, zsRet, zsRetN, zsExpr, zsAsg, zsPar, zsFor, zsSet, zsSetL, zsPass, zsBreak, zsCont, zsFrz, zEnds, zstart, z1, z2, zVar, zGet, zCst, zChain_eq, onB_bl, tOf, zNotT, zBoT, zBoV, zIf, zNil, zCons, zTup, zPart, zNoPart, zSl, zSlL, zCB, zCBL, zBF, zLM, LM.ty, IC.pv, zAbs, zList, zIsi, zVal, zRng1, zRng2, zEnum, Zz.gNm, Zz.gNil, Zz.gCons, Zz.gTup, zCall, zMt, zAppend, zExtend, zInsert, zPop, zReverse, zRev, zDct0, zDctK, zDctT, zYes, zLc, zwipe, zCmp, zEq, zIs, isNonP, List.map_cons, List.map_nil, List.cons_append, List.nil_append, List.replicate_succ, List.replicate_zero, List.length_cons, List.length_nil, List.set_cons_zero, List.set_cons_succ, List.getElem?_cons_zero, List.getElem?_cons_succ, Option.join_some, Nat.reduceAdd, Nat.reduceSub, Nat.zero_add, isiB, Bool.not_eq_true', decide_eq_false_iff_not, decide_eq_true_eq,  tyP_non, isDct_non, rs_non, tyP_bl, isDct_bl, rs_bl, tyP_int, isDct_int, rs_int, tyP_str, isDct_str, rs_str, tyP_tup, isDct_tup, rs_tup, tyP_lst, isDct_lst, rs_lst, tyP_rol, isDct_rol, rs_rol, tyP_dct, isDct_dct, rs_dct, asL_lst, asL_rol, asS_lst, asS_rol, asS_tup, asW_lst, asT_tup, asL_mset, asS_mset, asW_mset, refL_mset, isDct_mset, tyP_mset, rs_mset, Option.some.injEq, exists_eq_left', true_and, and_true, Bool.not_true, Bool.not_false, Bool.false_eq_true, if_true, if_false, ite_true, ite_false, String.reduceBEq, Bool.or_false, Bool.or_true, Bool.false_or, Bool.true_or, Bool.and_false, Bool.and_true, Bool.true_and, Bool.false_and, reduceIte, PV.int.injEq, exists_const, PV.tup.injEq, PV.lst.injEq, PV.ref.injEq, PV.ty.injEq, zIn, List.all_cons, List.all_nil, List.any_cons, List.any_nil, atP_0, atP_1, atP_2, flat_ints, Zz.any_ints, Nat.zero_le, IC.v, Nat.reduceLeDiff, forall_const, mset_mset, not_true_eq_false, not_false_eq_true, cpow9, pow9, cpow18, pow18, cpow30, pow30, ex2, Bool.true_eq_false, Int.cast_ofNat_Int, Int.ofNat_eq_natCast, flatP_non, flatP_bl, flatP_int, flatP_str, flatP_tup, flatP_lst, flatP_dct, eqF_ss, eqF_ii, eqF_bb, zB_Add_i, zB_Sub_i, zB_Mult_i, zB_FloorDiv_i, zB_Mod_i, zB_Pow_i, zB_BitAnd_i, zB_BitOr_i, zB_Add_s, zB_Add_t, zB_Add_l, zB_Mul_l, zIx_tup, zIx_lst, zIx_rol, zIx_str, zIx_mset, zLen_tup, zLen_lst, zLen_rol, zLen_str, zLen_mset, zInt_i, zInt_b, zTuple_t, zTuple_l, zTuple_m, zMax_ii, zMin_ii, zNeg_i, zNotV_b, zAllAny_l, wL_mset, szl0, szl1, szl2, szl3, szl4, szl5, szl6, szl7, szl8, szl9, szl10, szl11, szl12, szl13, szl14, szl15, szl16, szl17, szl18, szl19, szl20, szl21, szl22, szl23, szl24, szl25, szl26, szl27, szl28, szl29, szl30, szl31, szl32, szl33, szl34, szl35, szl36, szl37, szl38, szl39, szl40, szl41, szl42, szl43, szl44, szl45, szl46, szl47, szl48, szl49, szl50, szl51, szl52, szl53, szl54, szl55, szl56, szl57, szl58, szl59, szl60, szl61, szl62, szl63, szl64, szl65, szl66, szl67, szl68, szl69, frzV_ref, zfrz, Option.map_some, Option.map_none, frzV_non, frzV_bl, frzV_int, frzV_str, frzV_tup, frzV_lst, frzV_rol, frzV_dct]
    case pos =>
      intro p hp
      have h1' : 1 ≤ ks.length := by omega
      have h2' : ks.length ≤ 4 := by omega
      have q' : Q (.bl (goOrder ks [])) M := by simpa [isOrder, h1', h2'] using q
      refine for_inv (fun r z N => ∃ (cs : List Int) (w : Option PV), pls r = true ∧ z = [some (.tup ks), some (.ref p), w] ∧ N = mset M p (.lst (cs.map .int)) ∧ goOrder r cs = goOrder ks [] ∧ cs.length + r.length ≤ 4) ?_ ?_ ks _ _ ⟨[], none, h, rfl, rfl, rfl, by simpa using h2'⟩
      · rintro z N ⟨cs, w, _, rfl, rfl, e, _⟩
        simp only [zsp, zSs, zS, zE, zEs, zT, zBoVs, zBoTs, zA, zIfs, zI, zO, zG, zGs, zsCons, zsNil, zsIf, zsRet, zsRetN, zsExpr, zsAsg, zsPar, zsFor, zsSet, zsSetL, zsPass, zsBreak, zsCont, zsFrz, zEnds, zstart, z1, z2, zVar, zGet, zCst, zChain_eq, onB_bl, tOf, zNotT, zBoT, zBoV, zIf, zNil, zCons, zTup, zPart, zNoPart, zSl, zSlL, zCB, zCBL, zBF, zLM, LM.ty, IC.pv, zAbs, zList, zIsi, zVal, zRng1, zRng2, zEnum, Zz.gNm, Zz.gNil, Zz.gCons, Zz.gTup, zCall, zMt, zAppend, zExtend, zInsert, zPop, zReverse, zRev, zDct0, zDctK, zDctT, zYes, zLc, zwipe, zCmp, zEq, zIs, isNonP, List.map_cons, List.map_nil, List.cons_append, List.nil_append, List.replicate_succ, List.replicate_zero, List.length_cons, List.length_nil, List.set_cons_zero, List.set_cons_succ, List.getElem?_cons_zero, List.getElem?_cons_succ, Option.join_some, Nat.reduceAdd, Nat.reduceSub, Nat.zero_add, isiB, Bool.not_eq_true', decide_eq_false_iff_not, decide_eq_true_eq,  tyP_non, isDct_non, rs_non, tyP_bl, isDct_bl, rs_bl, tyP_int, isDct_int, rs_int, tyP_str, isDct_str, rs_str, tyP_tup, isDct_tup, rs_tup, tyP_lst, isDct_lst, rs_lst, tyP_rol, isDct_rol, rs_rol, tyP_dct, isDct_dct, rs_dct, asL_lst, asL_rol, asS_lst, asS_rol, asS_tup, asW_lst, asT_tup, asL_mset, asS_mset, asW_mset, refL_mset, isDct_mset, tyP_mset, rs_mset, Option.some.injEq, exists_eq_left', true_and, and_true, Bool.not_true, Bool.not_false, Bool.false_eq_true, if_true, if_false, ite_true, ite_false, String.reduceBEq, Bool.or_false, Bool.or_true, Bool.false_or, Bool.true_or, Bool.and_false, Bool.and_true, Bool.true_and, Bool.false_and, reduceIte, PV.int.injEq, exists_const, PV.tup.injEq, PV.lst.injEq, PV.ref.injEq, PV.ty.injEq, zIn, List.all_cons, List.all_nil, List.any_cons, List.any_nil, atP_0, atP_1, atP_2, flat_ints, Zz.any_ints, Nat.zero_le, IC.v, Nat.reduceLeDiff, forall_const, mset_mset, not_true_eq_false, not_false_eq_true, cpow9, pow9, cpow18, pow18, cpow30, pow30, ex2, Bool.true_eq_false, Int.cast_ofNat_Int, Int.ofNat_eq_natCast, flatP_non, flatP_bl, flatP_int, flatP_str, flatP_tup, flatP_lst, flatP_dct, eqF_ss, eqF_ii, eqF_bb, zB_Add_i, zB_Sub_i, zB_Mult_i, zB_FloorDiv_i, zB_Mod_i, zB_Pow_i, zB_BitAnd_i, zB_BitOr_i, zB_Add_s, zB_Add_t, zB_Add_l, zB_Mul_l, zIx_tup, zIx_lst, zIx_rol, zIx_str, zIx_mset, zLen_tup, zLen_lst, zLen_rol, zLen_str, zLen_mset, zInt_i, zInt_b, zTuple_t, zTuple_l, zTuple_m, zMax_ii, zMin_ii, zNeg_i, zNotV_b, zAllAny_l, wL_mset, szl0, szl1, szl2, szl3, szl4, szl5, szl6, szl7, szl8, szl9, szl10, szl11, szl12, szl13, szl14, szl15, szl16, szl17, szl18, szl19, szl20, szl21, szl22, szl23, szl24, szl25, szl26, szl27, szl28, szl29, szl30, szl31, szl32, szl33, szl34, szl35, szl36, szl37, szl38, szl39, szl40, szl41, szl42, szl43, szl44, szl45, szl46, szl47, szl48, szl49, szl50, szl51, szl52, szl53, szl54, szl55, szl56, szl57, szl58, szl59, szl60, szl61, szl62, szl63, szl64, szl65, szl66, szl67, szl68, szl69, frzV_ref, zfrz, Option.map_some, Option.map_none, frzV_non, frzV_bl, frzV_int, frzV_str, frzV_tup, frzV_lst, frzV_rol, frzV_dct]
        refine ret_new hp ?_
        rw [← e] at q'
        exact q'
      · rintro y r z N K ⟨cs, w, hr, rfl, rfl, e, hl⟩ hK
        rw [List.length_cons] at hl
        rw [pls, Bool.and_eq_true] at hr
        simp only [zsp, zSs, zS, zE, zEs, zT, zBoVs, zBoTs, zA, zIfs, zI, zO, zG, zGs, zsCons, zsNil, zsIf, zsRet, zsRetN, zsExpr, zsAsg, zsPar, zsFor, zsSet, zsSetL, zsPass, zsBreak, zsCont, zsFrz, zEnds, zstart, z1, z2, zVar, zGet, zCst, zChain_eq, onB_bl, tOf, zNotT, zBoT, zBoV, zIf, zNil, zCons, zTup, zPart, zNoPart, zSl, zSlL, zCB, zCBL, zBF, zLM, LM.ty, IC.pv, zAbs, zList, zIsi, zVal, zRng1, zRng2, zEnum, Zz.gNm, Zz.gNil, Zz.gCons, Zz.gTup, zCall, zMt, zAppend, zExtend, zInsert, zPop, zReverse, zRev, zDct0, zDctK, zDctT, zYes, zLc, zwipe, zCmp, zEq, zIs, isNonP, List.map_cons, List.map_nil, List.cons_append, List.nil_append, List.replicate_succ, List.replicate_zero, List.length_cons, List.length_nil, List.set_cons_zero, List.set_cons_succ, List.getElem?_cons_zero, List.getElem?_cons_succ, Option.join_some, Nat.reduceAdd, Nat.reduceSub, Nat.zero_add, isiB, Bool.not_eq_true', decide_eq_false_iff_not, decide_eq_true_eq,  tyP_non, isDct_non, rs_non, tyP_bl, isDct_bl, rs_bl, tyP_int, isDct_int, rs_int, tyP_str, isDct_str, rs_str, tyP_tup, isDct_tup, rs_tup, tyP_lst, isDct_lst, rs_lst, tyP_rol, isDct_rol, rs_rol, tyP_dct, isDct_dct, rs_dct, asL_lst, asL_rol, asS_lst, asS_rol, asS_tup, asW_lst, asT_tup, asL_mset, asS_mset, asW_mset, refL_mset, isDct_mset, tyP_mset, rs_mset, Option.some.injEq, exists_eq_left', true_and, and_true, Bool.not_true, Bool.not_false, Bool.false_eq_true, if_true, if_false, ite_true, ite_false, String.reduceBEq, Bool.or_false, Bool.or_true, Bool.false_or, Bool.true_or, Bool.and_false, Bool.and_true, Bool.true_and, Bool.false_and, reduceIte, PV.int.injEq, exists_const, PV.tup.injEq, PV.lst.injEq, PV.ref.injEq, PV.ty.injEq, zIn, List.all_cons, List.all_nil, List.any_cons, List.any_nil, atP_0, atP_1, atP_2, flat_ints, Zz.any_ints, Nat.zero_le, IC.v, Nat.reduceLeDiff, forall_const, mset_mset, not_true_eq_false, not_false_eq_true, cpow9, pow9, cpow18, pow18, cpow30, pow30, ex2, Bool.true_eq_false, Int.cast_ofNat_Int, Int.ofNat_eq_natCast, flatP_non, flatP_bl, flatP_int, flatP_str, flatP_tup, flatP_lst, flatP_dct, eqF_ss, eqF_ii, eqF_bb, zB_Add_i, zB_Sub_i, zB_Mult_i, zB_FloorDiv_i, zB_Mod_i, zB_Pow_i, zB_BitAnd_i, zB_BitOr_i, zB_Add_s, zB_Add_t, zB_Add_l, zB_Mul_l, zIx_tup, zIx_lst, zIx_rol, zIx_str, zIx_mset, zLen_tup, zLen_lst, zLen_rol, zLen_str, zLen_mset, zInt_i, zInt_b, zTuple_t, zTuple_l, zTuple_m, zMax_ii, zMin_ii, zNeg_i, zNotV_b, zAllAny_l, wL_mset, szl0, szl1, szl2, szl3, szl4, szl5, szl6, szl7, szl8, szl9, szl10, szl11, szl12, szl13, szl14, szl15, szl16, szl17, szl18, szl19, szl20, szl21, szl22, szl23, szl24, szl25, szl26, szl27, szl28, szl29, szl30, szl31, szl32, szl33, szl34, szl35, szl36, szl37, szl38, szl39, szl40, szl41, szl42, szl43, szl44, szl45, szl46, szl47, szl48, szl49, szl50, szl51, szl52, szl53, szl54, szl55, szl56, szl57, szl58, szl59, szl60, szl61, szl62, szl63, szl64, szl65, szl66, szl67, szl68, szl69, frzV_ref, zfrz, Option.map_some, Option.map_none, frzV_non, frzV_bl, frzV_int, frzV_str, frzV_tup, frzV_lst, frzV_rol, frzV_dct]
        refine sp_is_part E hr.1 ?_
        simp only [zsp, zSs, zS, zE, zEs, zT, zBoVs, zBoTs, zA, zIfs, zI, zO, zG, zGs, zsCons, zsNil, zsIf, zsRet, zsRetN, zsExpr, zsAsg, zsPar, zsFor, zsSet, zsSetL, zsPass, zsBreak, zsCont, zsFrz, zEnds, zstart, z1, z2, zVar, zGet, zCst, zChain_eq, onB_bl, tOf, zNotT, zBoT, zBoV, zIf, zNil, zCons, zTup, zPart, zNoPart, zSl, zSlL, zCB, zCBL, zBF, zLM, LM.ty, IC.pv, zAbs, zList, zIsi, zVal, zRng1, zRng2, zEnum, Zz.gNm, Zz.gNil, Zz.gCons, Zz.gTup, zCall, zMt, zAppend, zExtend, zInsert, zPop, zReverse, zRev, zDct0, zDctK, zDctT, zYes, zLc, zwipe, zCmp, zEq, zIs, isNonP, List.map_cons, List.map_nil, List.cons_append, List.nil_append, List.replicate_succ, List.replicate_zero, List.length_cons, List.length_nil, List.set_cons_zero, List.set_cons_succ, List.getElem?_cons_zero, List.getElem?_cons_succ, Option.join_some, Nat.reduceAdd, Nat.reduceSub, Nat.zero_add, isiB, Bool.not_eq_true', decide_eq_false_iff_not, decide_eq_true_eq,  tyP_non, isDct_non, rs_non, tyP_bl, isDct_bl, rs_bl, tyP_int, isDct_int, rs_int, tyP_str, isDct_str, rs_str, tyP_tup, isDct_tup, rs_tup, tyP_lst, isDct_lst, rs_lst, tyP_rol, isDct_rol, rs_rol, tyP_dct, isDct_dct, rs_dct, asL_lst, asL_rol, asS_lst, asS_rol, asS_tup, asW_lst, asT_tup, asL_mset, asS_mset, asW_mset, refL_mset, isDct_mset, tyP_mset, rs_mset, Option.some.injEq, exists_eq_left', true_and, and_true, Bool.not_true, Bool.not_false, Bool.false_eq_true, if_true, if_false, ite_true, ite_false, String.reduceBEq, Bool.or_false, Bool.or_true, Bool.false_or, Bool.true_or, Bool.and_false, Bool.and_true, Bool.true_and, Bool.false_and, reduceIte, PV.int.injEq, exists_const, PV.tup.injEq, PV.lst.injEq, PV.ref.injEq, PV.ty.injEq, zIn, List.all_cons, List.all_nil, List.any_cons, List.any_nil, atP_0, atP_1, atP_2, flat_ints, Zz.any_ints, Nat.zero_le, IC.v, Nat.reduceLeDiff, forall_const, mset_mset, not_true_eq_false, not_false_eq_true, cpow9, pow9, cpow18, pow18, cpow30, pow30, ex2, Bool.true_eq_false, Int.cast_ofNat_Int, Int.ofNat_eq_natCast, flatP_non, flatP_bl, flatP_int, flatP_str, flatP_tup, flatP_lst, flatP_dct, eqF_ss, eqF_ii, eqF_bb, zB_Add_i, zB_Sub_i, zB_Mult_i, zB_FloorDiv_i, zB_Mod_i, zB_Pow_i, zB_BitAnd_i, zB_BitOr_i, zB_Add_s, zB_Add_t, zB_Add_l, zB_Mul_l, zIx_tup, zIx_lst, zIx_rol, zIx_str, zIx_mset, zLen_tup, zLen_lst, zLen_rol, zLen_str, zLen_mset, zInt_i, zInt_b, zTuple_t, zTuple_l, zTuple_m, zMax_ii, zMin_ii, zNeg_i, zNotV_b, zAllAny_l, wL_mset, szl0, szl1, szl2, szl3, szl4, szl5, szl6, szl7, szl8, szl9, szl10, szl11, szl12, szl13, szl14, szl15, szl16, szl17, szl18, szl19, szl20, szl21, szl22, szl23, szl24, szl25, szl26, szl27, szl28, szl29, szl30, szl31, szl32, szl33, szl34, szl35, szl36, szl37, szl38, szl39, szl40, szl41, szl42, szl43, szl44, szl45, szl46, szl47, szl48, szl49, szl50, szl51, szl52, szl53, szl54, szl55, szl56, szl57, szl58, szl59, szl60, szl61, szl62, szl63, szl64, szl65, szl66, szl67, szl68, szl69, frzV_ref, zfrz, Option.map_some, Option.map_none, frzV_non, frzV_bl, frzV_int, frzV_str, frzV_tup, frzV_lst, frzV_rol, frzV_dct]
        by_cases hy : isPart y = true
        · obtain ⟨n, w', rfl, e1, e2, e3⟩ := part_inv hy
          simp only [hy, zsp, zSs, zS, zE, zEs, zT, zBoVs, zBoTs, zA, zIfs, zI, zO, zG, zGs, zsCons, zsNil, zsIf, zsRet, zsRetN, zsExpr, zsAsg, zsPar, zsFor, zsSet, zsSetL, zsPass, zsBreak, zsCont, zsFrz, zEnds, zstart, z1, z2, zVar, zGet, zCst, zChain_eq, onB_bl, tOf, zNotT, zBoT, zBoV, zIf, zNil, zCons, zTup, zPart, zNoPart, zSl, zSlL, zCB, zCBL, zBF, zLM, LM.ty, IC.pv, zAbs, zList, zIsi, zVal, zRng1, zRng2, zEnum, Zz.gNm, Zz.gNil, Zz.gCons, Zz.gTup, zCall, zMt, zAppend, zExtend, zInsert, zPop, zReverse, zRev, zDct0, zDctK, zDctT, zYes, zLc, zwipe, zCmp, zEq, zIs, isNonP, List.map_cons, List.map_nil, List.cons_append, List.nil_append, List.replicate_succ, List.replicate_zero, List.length_cons, List.length_nil, List.set_cons_zero, List.set_cons_succ, List.getElem?_cons_zero, List.getElem?_cons_succ, Option.join_some, Nat.reduceAdd, Nat.reduceSub, Nat.zero_add, isiB, Bool.not_eq_true', decide_eq_false_iff_not, decide_eq_true_eq,  tyP_non, isDct_non, rs_non, tyP_bl, isDct_bl, rs_bl, tyP_int, isDct_int, rs_int, tyP_str, isDct_str, rs_str, tyP_tup, isDct_tup, rs_tup, tyP_lst, isDct_lst, rs_lst, tyP_rol, isDct_rol, rs_rol, tyP_dct, isDct_dct, rs_dct, asL_lst, asL_rol, asS_lst, asS_rol, asS_tup, asW_lst, asT_tup, asL_mset, asS_mset, asW_mset, refL_mset, isDct_mset, tyP_mset, rs_mset, Option.some.injEq, exists_eq_left', true_and, and_true, Bool.not_true, Bool.not_false, Bool.false_eq_true, if_true, if_false, ite_true, ite_false, String.reduceBEq, Bool.or_false, Bool.or_true, Bool.false_or, Bool.true_or, Bool.and_false, Bool.and_true, Bool.true_and, Bool.false_and, reduceIte, PV.int.injEq, exists_const, PV.tup.injEq, PV.lst.injEq, PV.ref.injEq, PV.ty.injEq, zIn, List.all_cons, List.all_nil, List.any_cons, List.any_nil, atP_0, atP_1, atP_2, flat_ints, Zz.any_ints, Nat.zero_le, IC.v, Nat.reduceLeDiff, forall_const, mset_mset, not_true_eq_false, not_false_eq_true, cpow9, pow9, cpow18, pow18, cpow30, pow30, ex2, Bool.true_eq_false, Int.cast_ofNat_Int, Int.ofNat_eq_natCast, flatP_non, flatP_bl, flatP_int, flatP_str, flatP_tup, flatP_lst, flatP_dct, eqF_ss, eqF_ii, eqF_bb, zB_Add_i, zB_Sub_i, zB_Mult_i, zB_FloorDiv_i, zB_Mod_i, zB_Pow_i, zB_BitAnd_i, zB_BitOr_i, zB_Add_s, zB_Add_t, zB_Add_l, zB_Mul_l, zIx_tup, zIx_lst, zIx_rol, zIx_str, zIx_mset, zLen_tup, zLen_lst, zLen_rol, zLen_str, zLen_mset, zInt_i, zInt_b, zTuple_t, zTuple_l, zTuple_m, zMax_ii, zMin_ii, zNeg_i, zNotV_b, zAllAny_l, wL_mset, szl0, szl1, szl2, szl3, szl4, szl5, szl6, szl7, szl8, szl9, szl10, szl11, szl12, szl13, szl14, szl15, szl16, szl17, szl18, szl19, szl20, szl21, szl22, szl23, szl24, szl25, szl26, szl27, szl28, szl29, szl30, szl31, szl32, szl33, szl34, szl35, szl36, szl37, szl38, szl39, szl40, szl41, szl42, szl43, szl44, szl45, szl46, szl47, szl48, szl49, szl50, szl51, szl52, szl53, szl54, szl55, szl56, szl57, szl58, szl59, szl60, szl61, szl62, szl63, szl64, szl65, szl66, szl67, szl68, szl69, frzV_ref, zfrz, Option.map_some, Option.map_none, frzV_non, frzV_bl, frzV_int, frzV_str, frzV_tup, frzV_lst, frzV_rol, frzV_dct]
          by_cases hc : (cs.any fun e => e == n) = true
          · rw [if_pos hc]
            refine ret_new hp ?_
            rw [← e] at q'
            simpa [goOrder, colOf, hc] using q'
          · rw [if_neg hc]
            refine ⟨Nat.lt_of_le_of_lt (m := 4) (by rw [List.length_map]; omega) (by decide), hK _ _ ⟨cs ++ [n], _, hr.2, rfl, by rw [List.map_append]; rfl, ?_, by rw [List.length_append]; simp; omega⟩⟩
            rw [← e]
            simp [goOrder, colOf, hy, hc]
        · simp only [hy, zsp, zSs, zS, zE, zEs, zT, zBoVs, zBoTs, zA, zIfs, zI, zO, zG, zGs, zsCons, zsNil, zsIf, zsRet, zsRetN, zsExpr, zsAsg, zsPar, zsFor, zsSet, zsSetL, zsPass, zsBreak, zsCont, zsFrz, zEnds, zstart, z1, z2, zVar, zGet, zCst, zChain_eq, onB_bl, tOf, zNotT, zBoT, zBoV, zIf, zNil, zCons, zTup, zPart, zNoPart, zSl, zSlL, zCB, zCBL, zBF, zLM, LM.ty, IC.pv, zAbs, zList, zIsi, zVal, zRng1, zRng2, zEnum, Zz.gNm, Zz.gNil, Zz.gCons, Zz.gTup, zCall, zMt, zAppend, zExtend, zInsert, zPop, zReverse, zRev, zDct0, zDctK, zDctT, zYes, zLc, zwipe, zCmp, zEq, zIs, isNonP, List.map_cons, List.map_nil, List.cons_append, List.nil_append, List.replicate_succ, List.replicate_zero, List.length_cons, List.length_nil, List.set_cons_zero, List.set_cons_succ, List.getElem?_cons_zero, List.getElem?_cons_succ, Option.join_some, Nat.reduceAdd, Nat.reduceSub, Nat.zero_add, isiB, Bool.not_eq_true', decide_eq_false_iff_not, decide_eq_true_eq,  tyP_non, isDct_non, rs_non, tyP_bl, isDct_bl, rs_bl, tyP_int, isDct_int, rs_int, tyP_str, isDct_str, rs_str, tyP_tup, isDct_tup, rs_tup, tyP_lst, isDct_lst, rs_lst, tyP_rol, isDct_rol, rs_rol, tyP_dct, isDct_dct, rs_dct, asL_lst, asL_rol, asS_lst, asS_rol, asS_tup, asW_lst, asT_tup, asL_mset, asS_mset, asW_mset, refL_mset, isDct_mset, tyP_mset, rs_mset, Option.some.injEq, exists_eq_left', true_and, and_true, Bool.not_true, Bool.not_false, Bool.false_eq_true, if_true, if_false, ite_true, ite_false, String.reduceBEq, Bool.or_false, Bool.or_true, Bool.false_or, Bool.true_or, Bool.and_false, Bool.and_true, Bool.true_and, Bool.false_and, reduceIte, PV.int.injEq, exists_const, PV.tup.injEq, PV.lst.injEq, PV.ref.injEq, PV.ty.injEq, zIn, List.all_cons, List.all_nil, List.any_cons, List.any_nil, atP_0, atP_1, atP_2, flat_ints, Zz.any_ints, Nat.zero_le, IC.v, Nat.reduceLeDiff, forall_const, mset_mset, not_true_eq_false, not_false_eq_true, cpow9, pow9, cpow18, pow18, cpow30, pow30, ex2, Bool.true_eq_false, Int.cast_ofNat_Int, Int.ofNat_eq_natCast, flatP_non, flatP_bl, flatP_int, flatP_str, flatP_tup, flatP_lst, flatP_dct, eqF_ss, eqF_ii, eqF_bb, zB_Add_i, zB_Sub_i, zB_Mult_i, zB_FloorDiv_i, zB_Mod_i, zB_Pow_i, zB_BitAnd_i, zB_BitOr_i, zB_Add_s, zB_Add_t, zB_Add_l, zB_Mul_l, zIx_tup, zIx_lst, zIx_rol, zIx_str, zIx_mset, zLen_tup, zLen_lst, zLen_rol, zLen_str, zLen_mset, zInt_i, zInt_b, zTuple_t, zTuple_l, zTuple_m, zMax_ii, zMin_ii, zNeg_i, zNotV_b, zAllAny_l, wL_mset, szl0, szl1, szl2, szl3, szl4, szl5, szl6, szl7, szl8, szl9, szl10, szl11, szl12, szl13, szl14, szl15, szl16, szl17, szl18, szl19, szl20, szl21, szl22, szl23, szl24, szl25, szl26, szl27, szl28, szl29, szl30, szl31, szl32, szl33, szl34, szl35, szl36, szl37, szl38, szl39, szl40, szl41, szl42, szl43, szl44, szl45, szl46, szl47, szl48, szl49, szl50, szl51, szl52, szl53, szl54, szl55, szl56, szl57, szl58, szl59, szl60, szl61, szl62, szl63, szl64, szl65, szl66, szl67, szl68, szl69, frzV_ref, zfrz, Option.map_some, Option.map_none, frzV_non, frzV_bl, frzV_int, frzV_str, frzV_tup, frzV_lst, frzV_rol, frzV_dct]
          refine ret_new hp ?_
          rw [← e] at q'
          simpa [goOrder, hy] using q'
    all_goals
      apply ret_same
      have h1' : decide (1 ≤ ks.length) = decide (1 ≤ (ks.length : Int)) := by simp; omega
      have h2' : decide (ks.length ≤ 4) = decide ((ks.length : Int) ≤ 4) := by simp; omega
      simpa [isOrder, h1', h2', h1, h2] using q
  | _ =>
    simp only [ir_is_order, N_is_order, zsp, zSs, zS, zE, zEs, zT, zBoVs, zBoTs, zA, zIfs, zI, zO, zG, zGs, zsCons, zsNil, zsIf, zsRet, zsRetN, zsExpr, zsAsg, zsPar, zsFor, zsSet, zsSetL, zsPass, zsBreak, zsCont, zsFrz, zEnds, zstart, z1, z2, zVar, zGet, zCst, zChain_eq, onB_bl, tOf, zNotT, zBoT, zBoV, zIf, zNil, zCons, zTup, zPart, zNoPart, zSl, zSlL, zCB, zCBL, zBF, zLM, LM.ty, IC.pv, zAbs, zList, zIsi, zVal, zRng1, zRng2, zEnum, Zz.gNm, Zz.gNil, Zz.gCons, Zz.gTup, zCall, zMt, zAppend, zExtend, zInsert, zPop, zReverse, zRev, zDct0, zDctK, zDctT, zYes, zLc, zwipe, zCmp, zEq, zIs, isNonP, List.map_cons, List.map_nil, List.cons_append, List.nil_append, List.replicate_succ, List.replicate_zero, List.length_cons, List.length_nil, List.set_cons_zero, List.set_cons_succ, List.getElem?_cons_zero, List.getElem?_cons_succ, Option.join_some, Nat.reduceAdd, Nat.reduceSub, Nat.zero_add, isiB, Bool.not_eq_true', decide_eq_false_iff_not, decide_eq_true_eq,  tyP_non, isDct_non, rs_non, tyP_bl, isDct_bl, rs_bl, tyP_int, isDct_int, rs_int, tyP_str, isDct_str, rs_str, tyP_tup, isDct_tup, rs_tup, tyP_lst, isDct_lst, rs_lst, tyP_rol, isDct_rol, rs_rol, tyP_dct, isDct_dct, rs_dct, asL_lst, asL_rol, asS_lst, asS_rol, asS_tup, asW_lst, asT_tup, asL_mset, asS_mset, asW_mset, refL_mset, isDct_mset, tyP_mset, rs_mset, Option.some.injEq, exists_eq_left', true_and, and_true, Bool.not_true, Bool.not_false, Bool.false_eq_true, if_true, if_false, ite_true, ite_false, String.reduceBEq, Bool.or_false, Bool.or_true, Bool.false_or, Bool.true_or, Bool.and_false, Bool.and_true, Bool.true_and, Bool.false_and, reduceIte, PV.int.injEq, exists_const, PV.tup.injEq, PV.lst.injEq, PV.ref.injEq, PV.ty.injEq, zIn, List.all_cons, List.all_nil, List.any_cons, List.any_nil, atP_0, atP_1, atP_2, flat_ints, Zz.any_ints, Nat.zero_le, IC.v, Nat.reduceLeDiff, forall_const, mset_mset, not_true_eq_false, not_false_eq_true, cpow9, pow9, cpow18, pow18, cpow30, pow30, ex2, Bool.true_eq_false, Int.cast_ofNat_Int, Int.ofNat_eq_natCast, flatP_non, flatP_bl, flatP_int, flatP_str, flatP_tup, flatP_lst, flatP_dct, eqF_ss, eqF_ii, eqF_bb, zB_Add_i, zB_Sub_i, zB_Mult_i, zB_FloorDiv_i, zB_Mod_i, zB_Pow_i, zB_BitAnd_i, zB_BitOr_i, zB_Add_s, zB_Add_t, zB_Add_l, zB_Mul_l, zIx_tup, zIx_lst, zIx_rol, zIx_str, zIx_mset, zLen_tup, zLen_lst, zLen_rol, zLen_str, zLen_mset, zInt_i, zInt_b, zTuple_t, zTuple_l, zTuple_m, zMax_ii, zMin_ii, zNeg_i, zNotV_b, zAllAny_l, wL_mset, szl0, szl1, szl2, szl3, szl4, szl5, szl6, szl7, szl8, szl9, szl10, szl11, szl12, szl13, szl14, szl15, szl16, szl17, szl18, szl19, szl20, szl21, szl22, szl23, szl24, szl25, szl26, szl27, szl28, szl29, szl30, szl31, szl32, szl33, szl34, szl35, szl36, szl37, szl38, szl39, szl40, szl41, szl42, szl43, szl44, szl45, szl46, szl47, szl48, szl49, szl50, szl51, szl52, szl53, szl54, szl55, szl56, szl57, szl58, szl59, szl60, szl61, szl62, szl63, szl64, szl65, szl66, szl67, szl68, szl69, frzV_ref, zfrz, Option.map_some, Option.map_none, frzV_non, frzV_bl, frzV_int, frzV_str, frzV_tup, frzV_lst, frzV_rol, frzV_dct]
    first | exact ret_same q | (simp [pl] at h; done)
theorem sp_L_is_order (h : pl x = true) (q : Q (.bl (isOrder x)) M) : ZCall T (k + 3) "_law_is_order" [x] M Q X := by
  apply call_L_is_order E rfl
  cases x with
  | tup ks =>
    simp only [ir_L_is_order, N_L_is_order, zsp, zSs, zS, zE, zEs, zT, zBoVs, zBoTs, zA, zIfs, zI, zO, zG, zGs, zsCons, zsNil, zsIf, zsRet, zsRetN, zsExpr, zsAsg, zsPar, zsFor, zsSet, zsSetL, zsPass, zsBreak, zsCont, zsFrz, zEnds, zstart, z1, z2, zVar, zGet, zCst, zChain_eq, onB_bl, tOf, zNotT, zBoT, zBoV, zIf, zNil, zCons, zTup, zPart, zNoPart, zSl, zSlL, zCB, zCBL, zBF, zLM, LM.ty, IC.pv, zAbs, zList, zIsi, zVal, zRng1, zRng2, zEnum, Zz.gNm, Zz.gNil, Zz.gCons, Zz.gTup, zCall, zMt, zAppend, zExtend, zInsert, zPop, zReverse, zRev, zDct0, zDctK, zDctT, zYes, zLc, zwipe, zCmp, zEq, zIs, isNonP, List.map_cons, List.map_nil, List.cons_append, List.nil_append, List.replicate_succ, List.replicate_zero, List.length_cons, List.length_nil, List.set_cons_zero, List.set_cons_succ, List.getElem?_cons_zero, List.getElem?_cons_succ, Option.join_some, Nat.reduceAdd, Nat.reduceSub, Nat.zero_add, isiB, Bool.not_eq_true', decide_eq_false_iff_not, decide_eq_true_eq,  tyP_non, isDct_non, rs_non, tyP_bl, isDct_bl, rs_bl, tyP_int, isDct_int, rs_int, tyP_str, isDct_str, rs_str, tyP_tup, isDct_tup, rs_tup, tyP_lst, isDct_lst, rs_lst, tyP_rol, isDct_rol, rs_rol, tyP_dct, isDct_dct, rs_dct, asL_lst, asL_rol, asS_lst, asS_rol, asS_tup, asW_lst, asT_tup, asL_mset, asS_mset, asW_mset, refL_mset, isDct_mset, tyP_mset, rs_mset, Option.some.injEq, exists_eq_left', true_and, and_true, Bool.not_true, Bool.not_false, Bool.false_eq_true, if_true, if_false, ite_true, ite_false, String.reduceBEq, Bool.or_false, Bool.or_true, Bool.false_or, Bool.true_or, Bool.and_false, Bool.and_true, Bool.true_and, Bool.false_and, reduceIte, PV.int.injEq, exists_const, PV.tup.injEq, PV.lst.injEq, PV.ref.injEq, PV.ty.injEq, zIn, List.all_cons, List.all_nil, List.any_cons, List.any_nil, atP_0, atP_1, atP_2, flat_ints, Zz.any_ints, Nat.zero_le, IC.v, Nat.reduceLeDiff, forall_const, mset_mset, not_true_eq_false, not_false_eq_true, cpow9, pow9, cpow18, pow18, cpow30, pow30, ex2, Bool.true_eq_false, Int.cast_ofNat_Int, Int.ofNat_eq_natCast, flatP_non, flatP_bl, flatP_int, flatP_str, flatP_tup, flatP_lst, flatP_dct, eqF_ss, eqF_ii, eqF_bb, zB_Add_i, zB_Sub_i, zB_Mult_i, zB_FloorDiv_i, zB_Mod_i, zB_Pow_i, zB_BitAnd_i, zB_BitOr_i, zB_Add_s, zB_Add_t, zB_Add_l, zB_Mul_l, zIx_tup, zIx_lst, zIx_rol, zIx_str, zIx_mset, zLen_tup, zLen_lst, zLen_rol, zLen_str, zLen_mset, zInt_i, zInt_b, zTuple_t, zTuple_l, zTuple_m, zMax_ii, zMin_ii, zNeg_i, zNotV_b, zAllAny_l, wL_mset, szl0, szl1, szl2, szl3, szl4, szl5, szl6, szl7, szl8, szl9, szl10, szl11, szl12, szl13, szl14, szl15, szl16, szl17, szl18, szl19, szl20, szl21, szl22, szl23, szl24, szl25, szl26, szl27, szl28, szl29, szl30, szl31, szl32, szl33, szl34, szl35, szl36, szl37, szl38, szl39, szl40, szl41, szl42, szl43, szl44, szl45, szl46, szl47, szl48, szl49, szl50, szl51, szl52, szl53, szl54, szl55, szl56, szl57, szl58, szl59, szl60, szl61, szl62, szl63, szl64, szl65, szl66, szl67, szl68, szl69, frzV_ref, zfrz, Option.map_some, Option.map_none, frzV_non, frzV_bl, frzV_int, frzV_str, frzV_tup, frzV_lst, frzV_rol, frzV_dct]
    by_cases h1 : 1 ≤ (ks.length : Int) <;> by_cases h2 : (ks.length : Int) ≤ 4 <;> simp only [h1, h2, zsp, zSs, zS, zE, zEs, zT, zBoVs, zBoTs, zA, zIfs, zI, zO, zG, zGs, zsCons, zsNil, zsIf, zsRet, zsRetN, zsExpr, zsAsg, zsPar, zsFor, zsSet, zsSetL, zsPass, zsBreak, zsCont, zsFrz, zEnds, zstart, z1, z2, zVar, zGet, zCst, zChain_eq, onB_bl, tOf, zNotT, zBoT, zBoV, zIf, zNil, zCons, zTup, zPart, zNoPart, zSl, zSlL, zCB, zCBL, zBF, zLM, LM.ty, IC.pv, zAbs, zList, zIsi, zVal, zRng1, zRng2, zEnum, Zz.gNm, Zz.gNil, Zz.gCons, Zz.gTup, zCall, zMt, zAppend, zExtend, zInsert, zPop, zReverse, zRev, zDct0, zDctK, zDctT, zYes, zLc, zwipe, zCmp, zEq, zIs, isNonP, List.map_cons, List.map_nil, List.cons_append, List.nil_append, List.replicate_succ, List.replicate_zero, List.length_cons, List.length_nil, List.set_cons_zero, List.set_cons_succ, List.getElem?_cons_zero, List.getElem?_cons_succ, Option.join_some, Nat.reduceAdd, Nat.reduceSub, Nat.zero_add, isiB, Bool.not_eq_true', decide_eq_false_iff_not, decide_eq_true_eq,  tyP_non, isDct_non, rs_non, tyP_bl, isDct_bl, rs_bl, tyP_int, isDct_int, rs_int, tyP_str, isDct_str, rs_str, tyP_tup, isDct_tup, rs_tup, tyP_lst, isDct_lst, rs_lst, tyP_rol, isDct_rol, rs_rol, tyP_dct, isDct_dct, rs_dct, asL_lst, asL_rol, asS_lst, asS_rol, asS_tup, asW_lst, asT_tup, asL_mset, asS_mset, asW_mset, refL_mset, isDct_mset, tyP_mset, rs_mset, Option.some.injEq, exists_eq_left', true_and, and_true, Bool.not_true, Bool.not_false, Bool.false_eq_true, if_true, if_false, ite_true, ite_false, String.reduceBEq, Bool.or_false, Bool.or_true, Bool.false_or, Bool.true_or, Bool.and_false, Bool.and_true, Bool.true_and, Bool.false_and, reduceIte, PV.int.injEq, exists_const, PV.tup.injEq, PV.lst.injEq, PV.ref.injEq, PV.ty.injEq, zIn, List.all_cons, List.all_nil, List.any_cons, List.any_nil, atP_0, atP_1, atP_2, flat_ints, Zz.any_ints, Nat.zero_le, IC.v, Nat.reduceLeDiff, forall_const, mset_mset, not_true_eq_false, not_false_eq_true, cpow9, pow9, cpow18, pow18, cpow30, pow30, ex2, Bool.true_eq_false, Int.cast_ofNat_Int, Int.ofNat_eq_natCast, flatP_non, flatP_bl, flatP_int, flatP_str, flatP_tup, flatP_lst, flatP_dct, eqF_ss, eqF_ii, eqF_bb, zB_Add_i, zB_Sub_i, zB_Mult_i, zB_FloorDiv_i, zB_Mod_i, zB_Pow_i, zB_BitAnd_i, zB_BitOr_i, zB_Add_s, zB_Add_t, zB_Add_l, zB_Mul_l, zIx_tup, zIx_lst, zIx_rol, zIx_str, zIx_mset, zLen_tup, zLen_lst, zLen_rol, zLen_str, zLen_mset, zInt_i, zInt_b, zTuple_t, zTuple_l, zTuple_m, zMax_ii, zMin_ii, zNeg_i, zNotV_b, zAllAny_l, wL_mset, szl0, szl1, szl2, szl3, szl4, szl5, szl6, szl7, szl8, szl9, szl10, szl11, szl12, szl13, szl14, szl15, szl16, szl17, szl18, szl19, szl20, szl21, szl22, szl23, szl24, szl25, szl26, szl27, szl28, szl29, szl30, szl31, szl32, szl33, szl34, szl35, szl36, szl37, szl38, szl39, szl40, szl41, szl42, szl43, szl44, szl45, szl46, szl47, szl48, szl49, szl50, szl51, szl52, szl53, szl54, szl55, szl56, szl57, szl58, szl59, szl60, szl61, szl62, szl63, szl64, szl65, szl66, szl67, szl68, szl69, frzV_ref, zfrz, Option.map_some, Option.map_none, frzV_non, frzV_bl, frzV_int, frzV_str, frzV_tup, frzV_lst, frzV_rol, frzV_dct]
    case pos =>
      intro p hp
      have h1' : 1 ≤ ks.length := by omega
      have h2' : ks.length ≤ 4 := by omega
      have q' : Q (.bl (goOrder ks [])) M := by simpa [isOrder, h1', h2'] using q
      refine for_inv (fun r z N => ∃ (cs : List Int) (w : Option PV), pls r = true ∧ z = [some (.tup ks), some (.ref p), w] ∧ N = mset M p (.lst (cs.map .int)) ∧ goOrder r cs = goOrder ks [] ∧ cs.length + r.length ≤ 4) ?_ ?_ ks _ _ ⟨[], none, h, rfl, rfl, rfl, by simpa using h2'⟩
      · rintro z N ⟨cs, w, _, rfl, rfl, e, _⟩
        simp only [zsp, zSs, zS, zE, zEs, zT, zBoVs, zBoTs, zA, zIfs, zI, zO, zG, zGs, zsCons, zsNil, zsIf, zsRet, zsRetN, zsExpr, zsAsg, zsPar, zsFor, zsSet, zsSetL, zsPass, zsBreak, zsCont, zsFrz, zEnds, zstart, z1, z2, zVar, zGet, zCst, zChain_eq, onB_bl, tOf, zNotT, zBoT, zBoV, zIf, zNil, zCons, zTup, zPart, zNoPart, zSl, zSlL, zCB, zCBL, zBF, zLM, LM.ty, IC.pv, zAbs, zList, zIsi, zVal, zRng1, zRng2, zEnum, Zz.gNm, Zz.gNil, Zz.gCons, Zz.gTup, zCall, zMt, zAppend, zExtend, zInsert, zPop, zReverse, zRev, zDct0, zDctK, zDctT, zYes, zLc, zwipe, zCmp, zEq, zIs, isNonP, List.map_cons, List.map_nil, List.cons_append, List.nil_append, List.replicate_succ, List.replicate_zero, List.length_cons, List.length_nil, List.set_cons_zero, List.set_cons_succ, List.getElem?_cons_zero, List.getElem?_cons_succ, Option.join_some, Nat.reduceAdd, Nat.reduceSub, Nat.zero_add, isiB, Bool.not_eq_true', decide_eq_false_iff_not, decide_eq_true_eq,  tyP_non, isDct_non, rs_non, tyP_bl, isDct_bl, rs_bl, tyP_int, isDct_int, rs_int, tyP_str, isDct_str, rs_str, tyP_tup, isDct_tup, rs_tup, tyP_lst, isDct_lst, rs_lst, tyP_rol, isDct_rol, rs_rol, tyP_dct, isDct_dct, rs_dct, asL_lst, asL_rol, asS_lst, asS_rol, asS_tup, asW_lst, asT_tup, asL_mset, asS_mset, asW_mset, refL_mset, isDct_mset, tyP_mset, rs_mset, Option.some.injEq, exists_eq_left', true_and, and_true, Bool.not_true, Bool.not_false, Bool.false_eq_true, if_true, if_false, ite_true, ite_false, String.reduceBEq, Bool.or_false, Bool.or_true, Bool.false_or, Bool.true_or, Bool.and_false, Bool.and_true, Bool.true_and, Bool.false_and, reduceIte, PV.int.injEq, exists_const, PV.tup.injEq, PV.lst.injEq, PV.ref.injEq, PV.ty.injEq, zIn, List.all_cons, List.all_nil, List.any_cons, List.any_nil, atP_0, atP_1, atP_2, flat_ints, Zz.any_ints, Nat.zero_le, IC.v, Nat.reduceLeDiff, forall_const, mset_mset, not_true_eq_false, not_false_eq_true, cpow9, pow9, cpow18, pow18, cpow30, pow30, ex2, Bool.true_eq_false, Int.cast_ofNat_Int, Int.ofNat_eq_natCast, flatP_non, flatP_bl, flatP_int, flatP_str, flatP_tup, flatP_lst, flatP_dct, eqF_ss, eqF_ii, eqF_bb, zB_Add_i, zB_Sub_i, zB_Mult_i, zB_FloorDiv_i, zB_Mod_i, zB_Pow_i, zB_BitAnd_i, zB_BitOr_i, zB_Add_s, zB_Add_t, zB_Add_l, zB_Mul_l, zIx_tup, zIx_lst, zIx_rol, zIx_str, zIx_mset, zLen_tup, zLen_lst, zLen_rol, zLen_str, zLen_mset, zInt_i, zInt_b, zTuple_t, zTuple_l, zTuple_m, zMax_ii, zMin_ii, zNeg_i, zNotV_b, zAllAny_l, wL_mset, szl0, szl1, szl2, szl3, szl4, szl5, szl6, szl7, szl8, szl9, szl10, szl11, szl12, szl13, szl14, szl15, szl16, szl17, szl18, szl19, szl20, szl21, szl22, szl23, szl24, szl25, szl26, szl27, szl28, szl29, szl30, szl31, szl32, szl33, szl34, szl35, szl36, szl37, szl38, szl39, szl40, szl41, szl42, szl43, szl44, szl45, szl46, szl47, szl48, szl49, szl50, szl51, szl52, szl53, szl54, szl55, szl56, szl57, szl58, szl59, szl60, szl61, szl62, szl63, szl64, szl65, szl66, szl67, szl68, szl69, frzV_ref, zfrz, Option.map_some, Option.map_none, frzV_non, frzV_bl, frzV_int, frzV_str, frzV_tup, frzV_lst, frzV_rol, frzV_dct]
        refine ret_new hp ?_
        rw [← e] at q'
        exact q'
      · rintro y r z N K ⟨cs, w, hr, rfl, rfl, e, hl⟩ hK
        rw [List.length_cons] at hl
        rw [pls, Bool.and_eq_true] at hr
        obtain ⟨hy, hr⟩ := hr
        have no : isPart y = false → ∃ M', subM M' (mset M p (.lst (cs.map .int))) ∧ Q (.bl false) M' := fun hn => by
          refine ret_new hp ?_
          rw [← e] at q'
          simpa [goOrder, hn] using q'
        simp only [zsp, zSs, zS, zE, zEs, zT, zBoVs, zBoTs, zA, zIfs, zI, zO, zG, zGs, zsCons, zsNil, zsIf, zsRet, zsRetN, zsExpr, zsAsg, zsPar, zsFor, zsSet, zsSetL, zsPass, zsBreak, zsCont, zsFrz, zEnds, zstart, z1, z2, zVar, zGet, zCst, zChain_eq, onB_bl, tOf, zNotT, zBoT, zBoV, zIf, zNil, zCons, zTup, zPart, zNoPart, zSl, zSlL, zCB, zCBL, zBF, zLM, LM.ty, IC.pv, zAbs, zList, zIsi, zVal, zRng1, zRng2, zEnum, Zz.gNm, Zz.gNil, Zz.gCons, Zz.gTup, zCall, zMt, zAppend, zExtend, zInsert, zPop, zReverse, zRev, zDct0, zDctK, zDctT, zYes, zLc, zwipe, zCmp, zEq, zIs, isNonP, List.map_cons, List.map_nil, List.cons_append, List.nil_append, List.replicate_succ, List.replicate_zero, List.length_cons, List.length_nil, List.set_cons_zero, List.set_cons_succ, List.getElem?_cons_zero, List.getElem?_cons_succ, Option.join_some, Nat.reduceAdd, Nat.reduceSub, Nat.zero_add, isiB, Bool.not_eq_true', decide_eq_false_iff_not, decide_eq_true_eq,  tyP_non, isDct_non, rs_non, tyP_bl, isDct_bl, rs_bl, tyP_int, isDct_int, rs_int, tyP_str, isDct_str, rs_str, tyP_tup, isDct_tup, rs_tup, tyP_lst, isDct_lst, rs_lst, tyP_rol, isDct_rol, rs_rol, tyP_dct, isDct_dct, rs_dct, asL_lst, asL_rol, asS_lst, asS_rol, asS_tup, asW_lst, asT_tup, asL_mset, asS_mset, asW_mset, refL_mset, isDct_mset, tyP_mset, rs_mset, Option.some.injEq, exists_eq_left', true_and, and_true, Bool.not_true, Bool.not_false, Bool.false_eq_true, if_true, if_false, ite_true, ite_false, String.reduceBEq, Bool.or_false, Bool.or_true, Bool.false_or, Bool.true_or, Bool.and_false, Bool.and_true, Bool.true_and, Bool.false_and, reduceIte, PV.int.injEq, exists_const, PV.tup.injEq, PV.lst.injEq, PV.ref.injEq, PV.ty.injEq, zIn, List.all_cons, List.all_nil, List.any_cons, List.any_nil, atP_0, atP_1, atP_2, flat_ints, Zz.any_ints, Nat.zero_le, IC.v, Nat.reduceLeDiff, forall_const, mset_mset, not_true_eq_false, not_false_eq_true, cpow9, pow9, cpow18, pow18, cpow30, pow30, ex2, Bool.true_eq_false, Int.cast_ofNat_Int, Int.ofNat_eq_natCast, flatP_non, flatP_bl, flatP_int, flatP_str, flatP_tup, flatP_lst, flatP_dct, eqF_ss, eqF_ii, eqF_bb, zB_Add_i, zB_Sub_i, zB_Mult_i, zB_FloorDiv_i, zB_Mod_i, zB_Pow_i, zB_BitAnd_i, zB_BitOr_i, zB_Add_s, zB_Add_t, zB_Add_l, zB_Mul_l, zIx_tup, zIx_lst, zIx_rol, zIx_str, zIx_mset, zLen_tup, zLen_lst, zLen_rol, zLen_str, zLen_mset, zInt_i, zInt_b, zTuple_t, zTuple_l, zTuple_m, zMax_ii, zMin_ii, zNeg_i, zNotV_b, zAllAny_l, wL_mset, szl0, szl1, szl2, szl3, szl4, szl5, szl6, szl7, szl8, szl9, szl10, szl11, szl12, szl13, szl14, szl15, szl16, szl17, szl18, szl19, szl20, szl21, szl22, szl23, szl24, szl25, szl26, szl27, szl28, szl29, szl30, szl31, szl32, szl33, szl34, szl35, szl36, szl37, szl38, szl39, szl40, szl41, szl42, szl43, szl44, szl45, szl46, szl47, szl48, szl49, szl50, szl51, szl52, szl53, szl54, szl55, szl56, szl57, szl58, szl59, szl60, szl61, szl62, szl63, szl64, szl65, szl66, szl67, szl68, szl69, frzV_ref, zfrz, Option.map_some, Option.map_none, frzV_non, frzV_bl, frzV_int, frzV_str, frzV_tup, frzV_lst, frzV_rol, frzV_dct]
        cases y with
        | tup ys =>
          simp only [zsp, zSs, zS, zE, zEs, zT, zBoVs, zBoTs, zA, zIfs, zI, zO, zG, zGs, zsCons, zsNil, zsIf, zsRet, zsRetN, zsExpr, zsAsg, zsPar, zsFor, zsSet, zsSetL, zsPass, zsBreak, zsCont, zsFrz, zEnds, zstart, z1, z2, zVar, zGet, zCst, zChain_eq, onB_bl, tOf, zNotT, zBoT, zBoV, zIf, zNil, zCons, zTup, zPart, zNoPart, zSl, zSlL, zCB, zCBL, zBF, zLM, LM.ty, IC.pv, zAbs, zList, zIsi, zVal, zRng1, zRng2, zEnum, Zz.gNm, Zz.gNil, Zz.gCons, Zz.gTup, zCall, zMt, zAppend, zExtend, zInsert, zPop, zReverse, zRev, zDct0, zDctK, zDctT, zYes, zLc, zwipe, zCmp, zEq, zIs, isNonP, List.map_cons, List.map_nil, List.cons_append, List.nil_append, List.replicate_succ, List.replicate_zero, List.length_cons, List.length_nil, List.set_cons_zero, List.set_cons_succ, List.getElem?_cons_zero, List.getElem?_cons_succ, Option.join_some, Nat.reduceAdd, Nat.reduceSub, Nat.zero_add, isiB, Bool.not_eq_true', decide_eq_false_iff_not, decide_eq_true_eq,  tyP_non, isDct_non, rs_non, tyP_bl, isDct_bl, rs_bl, tyP_int, isDct_int, rs_int, tyP_str, isDct_str, rs_str, tyP_tup, isDct_tup, rs_tup, tyP_lst, isDct_lst, rs_lst, tyP_rol, isDct_rol, rs_rol, tyP_dct, isDct_dct, rs_dct, asL_lst, asL_rol, asS_lst, asS_rol, asS_tup, asW_lst, asT_tup, asL_mset, asS_mset, asW_mset, refL_mset, isDct_mset, tyP_mset, rs_mset, Option.some.injEq, exists_eq_left', true_and, and_true, Bool.not_true, Bool.not_false, Bool.false_eq_true, if_true, if_false, ite_true, ite_false, String.reduceBEq, Bool.or_false, Bool.or_true, Bool.false_or, Bool.true_or, Bool.and_false, Bool.and_true, Bool.true_and, Bool.false_and, reduceIte, PV.int.injEq, exists_const, PV.tup.injEq, PV.lst.injEq, PV.ref.injEq, PV.ty.injEq, zIn, List.all_cons, List.all_nil, List.any_cons, List.any_nil, atP_0, atP_1, atP_2, flat_ints, Zz.any_ints, Nat.zero_le, IC.v, Nat.reduceLeDiff, forall_const, mset_mset, not_true_eq_false, not_false_eq_true, cpow9, pow9, cpow18, pow18, cpow30, pow30, ex2, Bool.true_eq_false, Int.cast_ofNat_Int, Int.ofNat_eq_natCast, flatP_non, flatP_bl, flatP_int, flatP_str, flatP_tup, flatP_lst, flatP_dct, eqF_ss, eqF_ii, eqF_bb, zB_Add_i, zB_Sub_i, zB_Mult_i, zB_FloorDiv_i, zB_Mod_i, zB_Pow_i, zB_BitAnd_i, zB_BitOr_i, zB_Add_s, zB_Add_t, zB_Add_l, zB_Mul_l, zIx_tup, zIx_lst, zIx_rol, zIx_str, zIx_mset, zLen_tup, zLen_lst, zLen_rol, zLen_str, zLen_mset, zInt_i, zInt_b, zTuple_t, zTuple_l, zTuple_m, zMax_ii, zMin_ii, zNeg_i, zNotV_b, zAllAny_l, wL_mset, szl0, szl1, szl2, szl3, szl4, szl5, szl6, szl7, szl8, szl9, szl10, szl11, szl12, szl13, szl14, szl15, szl16, szl17, szl18, szl19, szl20, szl21, szl22, szl23, szl24, szl25, szl26, szl27, szl28, szl29, szl30, szl31, szl32, szl33, szl34, szl35, szl36, szl37, szl38, szl39, szl40, szl41, szl42, szl43, szl44, szl45, szl46, szl47, szl48, szl49, szl50, szl51, szl52, szl53, szl54, szl55, szl56, szl57, szl58, szl59, szl60, szl61, szl62, szl63, szl64, szl65, szl66, szl67, szl68, szl69, frzV_ref, zfrz, Option.map_some, Option.map_none, frzV_non, frzV_bl, frzV_int, frzV_str, frzV_tup, frzV_lst, frzV_rol, frzV_dct]
          match ys, hy, no, e with
          | [], hy, no, e => simp only [zsp, zSs, zS, zE, zEs, zT, zBoVs, zBoTs, zA, zIfs, zI, zO, zG, zGs, zsCons, zsNil, zsIf, zsRet, zsRetN, zsExpr, zsAsg, zsPar, zsFor, zsSet, zsSetL, zsPass, zsBreak, zsCont, zsFrz, zEnds, zstart, z1, z2, zVar, zGet, zCst, zChain_eq, onB_bl, tOf, zNotT, zBoT, zBoV, zIf, zNil, zCons, zTup, zPart, zNoPart, zSl, zSlL, zCB, zCBL, zBF, zLM, LM.ty, IC.pv, zAbs, zList, zIsi, zVal, zRng1, zRng2, zEnum, Zz.gNm, Zz.gNil, Zz.gCons, Zz.gTup, zCall, zMt, zAppend, zExtend, zInsert, zPop, zReverse, zRev, zDct0, zDctK, zDctT, zYes, zLc, zwipe, zCmp, zEq, zIs, isNonP, List.map_cons, List.map_nil, List.cons_append, List.nil_append, List.replicate_succ, List.replicate_zero, List.length_cons, List.length_nil, List.set_cons_zero, List.set_cons_succ, List.getElem?_cons_zero, List.getElem?_cons_succ, Option.join_some, Nat.reduceAdd, Nat.reduceSub, Nat.zero_add, isiB, Bool.not_eq_true', decide_eq_false_iff_not, decide_eq_true_eq,  tyP_non, isDct_non, rs_non, tyP_bl, isDct_bl, rs_bl, tyP_int, isDct_int, rs_int, tyP_str, isDct_str, rs_str, tyP_tup, isDct_tup, rs_tup, tyP_lst, isDct_lst, rs_lst, tyP_rol, isDct_rol, rs_rol, tyP_dct, isDct_dct, rs_dct, asL_lst, asL_rol, asS_lst, asS_rol, asS_tup, asW_lst, asT_tup, asL_mset, asS_mset, asW_mset, refL_mset, isDct_mset, tyP_mset, rs_mset, Option.some.injEq, exists_eq_left', true_and, and_true, Bool.not_true, Bool.not_false, Bool.false_eq_true, if_true, if_false, ite_true, ite_false, String.reduceBEq, Bool.or_false, Bool.or_true, Bool.false_or, Bool.true_or, Bool.and_false, Bool.and_true, Bool.true_and, Bool.false_and, reduceIte, PV.int.injEq, exists_const, PV.tup.injEq, PV.lst.injEq, PV.ref.injEq, PV.ty.injEq, zIn, List.all_cons, List.all_nil, List.any_cons, List.any_nil, atP_0, atP_1, atP_2, flat_ints, Zz.any_ints, Nat.zero_le, IC.v, Nat.reduceLeDiff, forall_const, mset_mset, not_true_eq_false, not_false_eq_true, cpow9, pow9, cpow18, pow18, cpow30, pow30, ex2, Bool.true_eq_false, Int.cast_ofNat_Int, Int.ofNat_eq_natCast, flatP_non, flatP_bl, flatP_int, flatP_str, flatP_tup, flatP_lst, flatP_dct, eqF_ss, eqF_ii, eqF_bb, zB_Add_i, zB_Sub_i, zB_Mult_i, zB_FloorDiv_i, zB_Mod_i, zB_Pow_i, zB_BitAnd_i, zB_BitOr_i, zB_Add_s, zB_Add_t, zB_Add_l, zB_Mul_l, zIx_tup, zIx_lst, zIx_rol, zIx_str, zIx_mset, zLen_tup, zLen_lst, zLen_rol, zLen_str, zLen_mset, zInt_i, zInt_b, zTuple_t, zTuple_l, zTuple_m, zMax_ii, zMin_ii, zNeg_i, zNotV_b, zAllAny_l, wL_mset, szl0, szl1, szl2, szl3, szl4, szl5, szl6, szl7, szl8, szl9, szl10, szl11, szl12, szl13, szl14, szl15, szl16, szl17, szl18, szl19, szl20, szl21, szl22, szl23, szl24, szl25, szl26, szl27, szl28, szl29, szl30, szl31, szl32, szl33, szl34, szl35, szl36, szl37, szl38, szl39, szl40, szl41, szl42, szl43, szl44, szl45, szl46, szl47, szl48, szl49, szl50, szl51, szl52, szl53, szl54, szl55, szl56, szl57, szl58, szl59, szl60, szl61, szl62, szl63, szl64, szl65, szl66, szl67, szl68, szl69, frzV_ref, zfrz, Option.map_some, Option.map_none, frzV_non, frzV_bl, frzV_int, frzV_str, frzV_tup, frzV_lst, frzV_rol, frzV_dct]; exact no (by simp [isPart])
          | [c], hy, no, e => simp only [zsp, zSs, zS, zE, zEs, zT, zBoVs, zBoTs, zA, zIfs, zI, zO, zG, zGs, zsCons, zsNil, zsIf, zsRet, zsRetN, zsExpr, zsAsg, zsPar, zsFor, zsSet, zsSetL, zsPass, zsBreak, zsCont, zsFrz, zEnds, zstart, z1, z2, zVar, zGet, zCst, zChain_eq, onB_bl, tOf, zNotT, zBoT, zBoV, zIf, zNil, zCons, zTup, zPart, zNoPart, zSl, zSlL, zCB, zCBL, zBF, zLM, LM.ty, IC.pv, zAbs, zList, zIsi, zVal, zRng1, zRng2, zEnum, Zz.gNm, Zz.gNil, Zz.gCons, Zz.gTup, zCall, zMt, zAppend, zExtend, zInsert, zPop, zReverse, zRev, zDct0, zDctK, zDctT, zYes, zLc, zwipe, zCmp, zEq, zIs, isNonP, List.map_cons, List.map_nil, List.cons_append, List.nil_append, List.replicate_succ, List.replicate_zero, List.length_cons, List.length_nil, List.set_cons_zero, List.set_cons_succ, List.getElem?_cons_zero, List.getElem?_cons_succ, Option.join_some, Nat.reduceAdd, Nat.reduceSub, Nat.zero_add, isiB, Bool.not_eq_true', decide_eq_false_iff_not, decide_eq_true_eq,  tyP_non, isDct_non, rs_non, tyP_bl, isDct_bl, rs_bl, tyP_int, isDct_int, rs_int, tyP_str, isDct_str, rs_str, tyP_tup, isDct_tup, rs_tup, tyP_lst, isDct_lst, rs_lst, tyP_rol, isDct_rol, rs_rol, tyP_dct, isDct_dct, rs_dct, asL_lst, asL_rol, asS_lst, asS_rol, asS_tup, asW_lst, asT_tup, asL_mset, asS_mset, asW_mset, refL_mset, isDct_mset, tyP_mset, rs_mset, Option.some.injEq, exists_eq_left', true_and, and_true, Bool.not_true, Bool.not_false, Bool.false_eq_true, if_true, if_false, ite_true, ite_false, String.reduceBEq, Bool.or_false, Bool.or_true, Bool.false_or, Bool.true_or, Bool.and_false, Bool.and_true, Bool.true_and, Bool.false_and, reduceIte, PV.int.injEq, exists_const, PV.tup.injEq, PV.lst.injEq, PV.ref.injEq, PV.ty.injEq, zIn, List.all_cons, List.all_nil, List.any_cons, List.any_nil, atP_0, atP_1, atP_2, flat_ints, Zz.any_ints, Nat.zero_le, IC.v, Nat.reduceLeDiff, forall_const, mset_mset, not_true_eq_false, not_false_eq_true, cpow9, pow9, cpow18, pow18, cpow30, pow30, ex2, Bool.true_eq_false, Int.cast_ofNat_Int, Int.ofNat_eq_natCast, flatP_non, flatP_bl, flatP_int, flatP_str, flatP_tup, flatP_lst, flatP_dct, eqF_ss, eqF_ii, eqF_bb, zB_Add_i, zB_Sub_i, zB_Mult_i, zB_FloorDiv_i, zB_Mod_i, zB_Pow_i, zB_BitAnd_i, zB_BitOr_i, zB_Add_s, zB_Add_t, zB_Add_l, zB_Mul_l, zIx_tup, zIx_lst, zIx_rol, zIx_str, zIx_mset, zLen_tup, zLen_lst, zLen_rol, zLen_str, zLen_mset, zInt_i, zInt_b, zTuple_t, zTuple_l, zTuple_m, zMax_ii, zMin_ii, zNeg_i, zNotV_b, zAllAny_l, wL_mset, szl0, szl1, szl2, szl3, szl4, szl5, szl6, szl7, szl8, szl9, szl10, szl11, szl12, szl13, szl14, szl15, szl16, szl17, szl18, szl19, szl20, szl21, szl22, szl23, szl24, szl25, szl26, szl27, szl28, szl29, szl30, szl31, szl32, szl33, szl34, szl35, szl36, szl37, szl38, szl39, szl40, szl41, szl42, szl43, szl44, szl45, szl46, szl47, szl48, szl49, szl50, szl51, szl52, szl53, szl54, szl55, szl56, szl57, szl58, szl59, szl60, szl61, szl62, szl63, szl64, szl65, szl66, szl67, szl68, szl69, frzV_ref, zfrz, Option.map_some, Option.map_none, frzV_non, frzV_bl, frzV_int, frzV_str, frzV_tup, frzV_lst, frzV_rol, frzV_dct]; exact no (by simp [isPart])
          | a :: b :: c :: r', hy, no, e =>
            have e' : decide (((a :: b :: c :: r').length : Int) = 2) = false := by simp; omega
            simp only [List.length_cons] at e'
            simp only [e', zsp, zSs, zS, zE, zEs, zT, zBoVs, zBoTs, zA, zIfs, zI, zO, zG, zGs, zsCons, zsNil, zsIf, zsRet, zsRetN, zsExpr, zsAsg, zsPar, zsFor, zsSet, zsSetL, zsPass, zsBreak, zsCont, zsFrz, zEnds, zstart, z1, z2, zVar, zGet, zCst, zChain_eq, onB_bl, tOf, zNotT, zBoT, zBoV, zIf, zNil, zCons, zTup, zPart, zNoPart, zSl, zSlL, zCB, zCBL, zBF, zLM, LM.ty, IC.pv, zAbs, zList, zIsi, zVal, zRng1, zRng2, zEnum, Zz.gNm, Zz.gNil, Zz.gCons, Zz.gTup, zCall, zMt, zAppend, zExtend, zInsert, zPop, zReverse, zRev, zDct0, zDctK, zDctT, zYes, zLc, zwipe, zCmp, zEq, zIs, isNonP, List.map_cons, List.map_nil, List.cons_append, List.nil_append, List.replicate_succ, List.replicate_zero, List.length_cons, List.length_nil, List.set_cons_zero, List.set_cons_succ, List.getElem?_cons_zero, List.getElem?_cons_succ, Option.join_some, Nat.reduceAdd, Nat.reduceSub, Nat.zero_add, isiB, Bool.not_eq_true', decide_eq_false_iff_not, decide_eq_true_eq,  tyP_non, isDct_non, rs_non, tyP_bl, isDct_bl, rs_bl, tyP_int, isDct_int, rs_int, tyP_str, isDct_str, rs_str, tyP_tup, isDct_tup, rs_tup, tyP_lst, isDct_lst, rs_lst, tyP_rol, isDct_rol, rs_rol, tyP_dct, isDct_dct, rs_dct, asL_lst, asL_rol, asS_lst, asS_rol, asS_tup, asW_lst, asT_tup, asL_mset, asS_mset, asW_mset, refL_mset, isDct_mset, tyP_mset, rs_mset, Option.some.injEq, exists_eq_left', true_and, and_true, Bool.not_true, Bool.not_false, Bool.false_eq_true, if_true, if_false, ite_true, ite_false, String.reduceBEq, Bool.or_false, Bool.or_true, Bool.false_or, Bool.true_or, Bool.and_false, Bool.and_true, Bool.true_and, Bool.false_and, reduceIte, PV.int.injEq, exists_const, PV.tup.injEq, PV.lst.injEq, PV.ref.injEq, PV.ty.injEq, zIn, List.all_cons, List.all_nil, List.any_cons, List.any_nil, atP_0, atP_1, atP_2, flat_ints, Zz.any_ints, Nat.zero_le, IC.v, Nat.reduceLeDiff, forall_const, mset_mset, not_true_eq_false, not_false_eq_true, cpow9, pow9, cpow18, pow18, cpow30, pow30, ex2, Bool.true_eq_false, Int.cast_ofNat_Int, Int.ofNat_eq_natCast, flatP_non, flatP_bl, flatP_int, flatP_str, flatP_tup, flatP_lst, flatP_dct, eqF_ss, eqF_ii, eqF_bb, zB_Add_i, zB_Sub_i, zB_Mult_i, zB_FloorDiv_i, zB_Mod_i, zB_Pow_i, zB_BitAnd_i, zB_BitOr_i, zB_Add_s, zB_Add_t, zB_Add_l, zB_Mul_l, zIx_tup, zIx_lst, zIx_rol, zIx_str, zIx_mset, zLen_tup, zLen_lst, zLen_rol, zLen_str, zLen_mset, zInt_i, zInt_b, zTuple_t, zTuple_l, zTuple_m, zMax_ii, zMin_ii, zNeg_i, zNotV_b, zAllAny_l, wL_mset, szl0, szl1, szl2, szl3, szl4, szl5, szl6, szl7, szl8, szl9, szl10, szl11, szl12, szl13, szl14, szl15, szl16, szl17, szl18, szl19, szl20, szl21, szl22, szl23, szl24, szl25, szl26, szl27, szl28, szl29, szl30, szl31, szl32, szl33, szl34, szl35, szl36, szl37, szl38, szl39, szl40, szl41, szl42, szl43, szl44, szl45, szl46, szl47, szl48, szl49, szl50, szl51, szl52, szl53, szl54, szl55, szl56, szl57, szl58, szl59, szl60, szl61, szl62, szl63, szl64, szl65, szl66, szl67, szl68, szl69, frzV_ref, zfrz, Option.map_some, Option.map_none, frzV_non, frzV_bl, frzV_int, frzV_str, frzV_tup, frzV_lst, frzV_rol, frzV_dct]
            exact no (by simp [isPart])
          | [a, b], hy, no, e =>
            simp only [zsp, zSs, zS, zE, zEs, zT, zBoVs, zBoTs, zA, zIfs, zI, zO, zG, zGs, zsCons, zsNil, zsIf, zsRet, zsRetN, zsExpr, zsAsg, zsPar, zsFor, zsSet, zsSetL, zsPass, zsBreak, zsCont, zsFrz, zEnds, zstart, z1, z2, zVar, zGet, zCst, zChain_eq, onB_bl, tOf, zNotT, zBoT, zBoV, zIf, zNil, zCons, zTup, zPart, zNoPart, zSl, zSlL, zCB, zCBL, zBF, zLM, LM.ty, IC.pv, zAbs, zList, zIsi, zVal, zRng1, zRng2, zEnum, Zz.gNm, Zz.gNil, Zz.gCons, Zz.gTup, zCall, zMt, zAppend, zExtend, zInsert, zPop, zReverse, zRev, zDct0, zDctK, zDctT, zYes, zLc, zwipe, zCmp, zEq, zIs, isNonP, List.map_cons, List.map_nil, List.cons_append, List.nil_append, List.replicate_succ, List.replicate_zero, List.length_cons, List.length_nil, List.set_cons_zero, List.set_cons_succ, List.getElem?_cons_zero, List.getElem?_cons_succ, Option.join_some, Nat.reduceAdd, Nat.reduceSub, Nat.zero_add, isiB, Bool.not_eq_true', decide_eq_false_iff_not, decide_eq_true_eq,  tyP_non, isDct_non, rs_non, tyP_bl, isDct_bl, rs_bl, tyP_int, isDct_int, rs_int, tyP_str, isDct_str, rs_str, tyP_tup, isDct_tup, rs_tup, tyP_lst, isDct_lst, rs_lst, tyP_rol, isDct_rol, rs_rol, tyP_dct, isDct_dct, rs_dct, asL_lst, asL_rol, asS_lst, asS_rol, asS_tup, asW_lst, asT_tup, asL_mset, asS_mset, asW_mset, refL_mset, isDct_mset, tyP_mset, rs_mset, Option.some.injEq, exists_eq_left', true_and, and_true, Bool.not_true, Bool.not_false, Bool.false_eq_true, if_true, if_false, ite_true, ite_false, String.reduceBEq, Bool.or_false, Bool.or_true, Bool.false_or, Bool.true_or, Bool.and_false, Bool.and_true, Bool.true_and, Bool.false_and, reduceIte, PV.int.injEq, exists_const, PV.tup.injEq, PV.lst.injEq, PV.ref.injEq, PV.ty.injEq, zIn, List.all_cons, List.all_nil, List.any_cons, List.any_nil, atP_0, atP_1, atP_2, flat_ints, Zz.any_ints, Nat.zero_le, IC.v, Nat.reduceLeDiff, forall_const, mset_mset, not_true_eq_false, not_false_eq_true, cpow9, pow9, cpow18, pow18, cpow30, pow30, ex2, Bool.true_eq_false, Int.cast_ofNat_Int, Int.ofNat_eq_natCast, flatP_non, flatP_bl, flatP_int, flatP_str, flatP_tup, flatP_lst, flatP_dct, eqF_ss, eqF_ii, eqF_bb, zB_Add_i, zB_Sub_i, zB_Mult_i, zB_FloorDiv_i, zB_Mod_i, zB_Pow_i, zB_BitAnd_i, zB_BitOr_i, zB_Add_s, zB_Add_t, zB_Add_l, zB_Mul_l, zIx_tup, zIx_lst, zIx_rol, zIx_str, zIx_mset, zLen_tup, zLen_lst, zLen_rol, zLen_str, zLen_mset, zInt_i, zInt_b, zTuple_t, zTuple_l, zTuple_m, zMax_ii, zMin_ii, zNeg_i, zNotV_b, zAllAny_l, wL_mset, szl0, szl1, szl2, szl3, szl4, szl5, szl6, szl7, szl8, szl9, szl10, szl11, szl12, szl13, szl14, szl15, szl16, szl17, szl18, szl19, szl20, szl21, szl22, szl23, szl24, szl25, szl26, szl27, szl28, szl29, szl30, szl31, szl32, szl33, szl34, szl35, szl36, szl37, szl38, szl39, szl40, szl41, szl42, szl43, szl44, szl45, szl46, szl47, szl48, szl49, szl50, szl51, szl52, szl53, szl54, szl55, szl56, szl57, szl58, szl59, szl60, szl61, szl62, szl63, szl64, szl65, szl66, szl67, szl68, szl69, frzV_ref, zfrz, Option.map_some, Option.map_none, frzV_non, frzV_bl, frzV_int, frzV_str, frzV_tup, frzV_lst, frzV_rol, frzV_dct]
            have ha : pl a = true := pls_mem hy a (by simp)
            have hb : pl b = true := pls_mem hy b (by simp)
            refine sp_L_whole E ha ?_
            cases a with
            | int n =>
              simp only [isWhole, zsp, zSs, zS, zE, zEs, zT, zBoVs, zBoTs, zA, zIfs, zI, zO, zG, zGs, zsCons, zsNil, zsIf, zsRet, zsRetN, zsExpr, zsAsg, zsPar, zsFor, zsSet, zsSetL, zsPass, zsBreak, zsCont, zsFrz, zEnds, zstart, z1, z2, zVar, zGet, zCst, zChain_eq, onB_bl, tOf, zNotT, zBoT, zBoV, zIf, zNil, zCons, zTup, zPart, zNoPart, zSl, zSlL, zCB, zCBL, zBF, zLM, LM.ty, IC.pv, zAbs, zList, zIsi, zVal, zRng1, zRng2, zEnum, Zz.gNm, Zz.gNil, Zz.gCons, Zz.gTup, zCall, zMt, zAppend, zExtend, zInsert, zPop, zReverse, zRev, zDct0, zDctK, zDctT, zYes, zLc, zwipe, zCmp, zEq, zIs, isNonP, List.map_cons, List.map_nil, List.cons_append, List.nil_append, List.replicate_succ, List.replicate_zero, List.length_cons, List.length_nil, List.set_cons_zero, List.set_cons_succ, List.getElem?_cons_zero, List.getElem?_cons_succ, Option.join_some, Nat.reduceAdd, Nat.reduceSub, Nat.zero_add, isiB, Bool.not_eq_true', decide_eq_false_iff_not, decide_eq_true_eq,  tyP_non, isDct_non, rs_non, tyP_bl, isDct_bl, rs_bl, tyP_int, isDct_int, rs_int, tyP_str, isDct_str, rs_str, tyP_tup, isDct_tup, rs_tup, tyP_lst, isDct_lst, rs_lst, tyP_rol, isDct_rol, rs_rol, tyP_dct, isDct_dct, rs_dct, asL_lst, asL_rol, asS_lst, asS_rol, asS_tup, asW_lst, asT_tup, asL_mset, asS_mset, asW_mset, refL_mset, isDct_mset, tyP_mset, rs_mset, Option.some.injEq, exists_eq_left', true_and, and_true, Bool.not_true, Bool.not_false, Bool.false_eq_true, if_true, if_false, ite_true, ite_false, String.reduceBEq, Bool.or_false, Bool.or_true, Bool.false_or, Bool.true_or, Bool.and_false, Bool.and_true, Bool.true_and, Bool.false_and, reduceIte, PV.int.injEq, exists_const, PV.tup.injEq, PV.lst.injEq, PV.ref.injEq, PV.ty.injEq, zIn, List.all_cons, List.all_nil, List.any_cons, List.any_nil, atP_0, atP_1, atP_2, flat_ints, Zz.any_ints, Nat.zero_le, IC.v, Nat.reduceLeDiff, forall_const, mset_mset, not_true_eq_false, not_false_eq_true, cpow9, pow9, cpow18, pow18, cpow30, pow30, ex2, Bool.true_eq_false, Int.cast_ofNat_Int, Int.ofNat_eq_natCast, flatP_non, flatP_bl, flatP_int, flatP_str, flatP_tup, flatP_lst, flatP_dct, eqF_ss, eqF_ii, eqF_bb, zB_Add_i, zB_Sub_i, zB_Mult_i, zB_FloorDiv_i, zB_Mod_i, zB_Pow_i, zB_BitAnd_i, zB_BitOr_i, zB_Add_s, zB_Add_t, zB_Add_l, zB_Mul_l, zIx_tup, zIx_lst, zIx_rol, zIx_str, zIx_mset, zLen_tup, zLen_lst, zLen_rol, zLen_str, zLen_mset, zInt_i, zInt_b, zTuple_t, zTuple_l, zTuple_m, zMax_ii, zMin_ii, zNeg_i, zNotV_b, zAllAny_l, wL_mset, szl0, szl1, szl2, szl3, szl4, szl5, szl6, szl7, szl8, szl9, szl10, szl11, szl12, szl13, szl14, szl15, szl16, szl17, szl18, szl19, szl20, szl21, szl22, szl23, szl24, szl25, szl26, szl27, szl28, szl29, szl30, szl31, szl32, szl33, szl34, szl35, szl36, szl37, szl38, szl39, szl40, szl41, szl42, szl43, szl44, szl45, szl46, szl47, szl48, szl49, szl50, szl51, szl52, szl53, szl54, szl55, szl56, szl57, szl58, szl59, szl60, szl61, szl62, szl63, szl64, szl65, szl66, szl67, szl68, szl69, frzV_ref, zfrz, Option.map_some, Option.map_none, frzV_non, frzV_bl, frzV_int, frzV_str, frzV_tup, frzV_lst, frzV_rol, frzV_dct]
              by_cases g1 : 1 ≤ n <;> by_cases g2 : n ≤ 4 <;> by_cases hc : (cs.any fun e => e == n) = true <;> simp only [g1, g2, hc, zsp, zSs, zS, zE, zEs, zT, zBoVs, zBoTs, zA, zIfs, zI, zO, zG, zGs, zsCons, zsNil, zsIf, zsRet, zsRetN, zsExpr, zsAsg, zsPar, zsFor, zsSet, zsSetL, zsPass, zsBreak, zsCont, zsFrz, zEnds, zstart, z1, z2, zVar, zGet, zCst, zChain_eq, onB_bl, tOf, zNotT, zBoT, zBoV, zIf, zNil, zCons, zTup, zPart, zNoPart, zSl, zSlL, zCB, zCBL, zBF, zLM, LM.ty, IC.pv, zAbs, zList, zIsi, zVal, zRng1, zRng2, zEnum, Zz.gNm, Zz.gNil, Zz.gCons, Zz.gTup, zCall, zMt, zAppend, zExtend, zInsert, zPop, zReverse, zRev, zDct0, zDctK, zDctT, zYes, zLc, zwipe, zCmp, zEq, zIs, isNonP, List.map_cons, List.map_nil, List.cons_append, List.nil_append, List.replicate_succ, List.replicate_zero, List.length_cons, List.length_nil, List.set_cons_zero, List.set_cons_succ, List.getElem?_cons_zero, List.getElem?_cons_succ, Option.join_some, Nat.reduceAdd, Nat.reduceSub, Nat.zero_add, isiB, Bool.not_eq_true', decide_eq_false_iff_not, decide_eq_true_eq,  tyP_non, isDct_non, rs_non, tyP_bl, isDct_bl, rs_bl, tyP_int, isDct_int, rs_int, tyP_str, isDct_str, rs_str, tyP_tup, isDct_tup, rs_tup, tyP_lst, isDct_lst, rs_lst, tyP_rol, isDct_rol, rs_rol, tyP_dct, isDct_dct, rs_dct, asL_lst, asL_rol, asS_lst, asS_rol, asS_tup, asW_lst, asT_tup, asL_mset, asS_mset, asW_mset, refL_mset, isDct_mset, tyP_mset, rs_mset, Option.some.injEq, exists_eq_left', true_and, and_true, Bool.not_true, Bool.not_false, Bool.false_eq_true, if_true, if_false, ite_true, ite_false, String.reduceBEq, Bool.or_false, Bool.or_true, Bool.false_or, Bool.true_or, Bool.and_false, Bool.and_true, Bool.true_and, Bool.false_and, reduceIte, PV.int.injEq, exists_const, PV.tup.injEq, PV.lst.injEq, PV.ref.injEq, PV.ty.injEq, zIn, List.all_cons, List.all_nil, List.any_cons, List.any_nil, atP_0, atP_1, atP_2, flat_ints, Zz.any_ints, Nat.zero_le, IC.v, Nat.reduceLeDiff, forall_const, mset_mset, not_true_eq_false, not_false_eq_true, cpow9, pow9, cpow18, pow18, cpow30, pow30, ex2, Bool.true_eq_false, Int.cast_ofNat_Int, Int.ofNat_eq_natCast, flatP_non, flatP_bl, flatP_int, flatP_str, flatP_tup, flatP_lst, flatP_dct, eqF_ss, eqF_ii, eqF_bb, zB_Add_i, zB_Sub_i, zB_Mult_i, zB_FloorDiv_i, zB_Mod_i, zB_Pow_i, zB_BitAnd_i, zB_BitOr_i, zB_Add_s, zB_Add_t, zB_Add_l, zB_Mul_l, zIx_tup, zIx_lst, zIx_rol, zIx_str, zIx_mset, zLen_tup, zLen_lst, zLen_rol, zLen_str, zLen_mset, zInt_i, zInt_b, zTuple_t, zTuple_l, zTuple_m, zMax_ii, zMin_ii, zNeg_i, zNotV_b, zAllAny_l, wL_mset, szl0, szl1, szl2, szl3, szl4, szl5, szl6, szl7, szl8, szl9, szl10, szl11, szl12, szl13, szl14, szl15, szl16, szl17, szl18, szl19, szl20, szl21, szl22, szl23, szl24, szl25, szl26, szl27, szl28, szl29, szl30, szl31, szl32, szl33, szl34, szl35, szl36, szl37, szl38, szl39, szl40, szl41, szl42, szl43, szl44, szl45, szl46, szl47, szl48, szl49, szl50, szl51, szl52, szl53, szl54, szl55, szl56, szl57, szl58, szl59, szl60, szl61, szl62, szl63, szl64, szl65, szl66, szl67, szl68, szl69, frzV_ref, zfrz, Option.map_some, Option.map_none, frzV_non, frzV_bl, frzV_int, frzV_str, frzV_tup, frzV_lst, frzV_rol, frzV_dct]
              · refine ret_new hp ?_
                rw [← e] at q'
                simpa [goOrder, colOf, hc] using q'
              · cases b with
                | str w' =>
                  simp only [zsp, zSs, zS, zE, zEs, zT, zBoVs, zBoTs, zA, zIfs, zI, zO, zG, zGs, zsCons, zsNil, zsIf, zsRet, zsRetN, zsExpr, zsAsg, zsPar, zsFor, zsSet, zsSetL, zsPass, zsBreak, zsCont, zsFrz, zEnds, zstart, z1, z2, zVar, zGet, zCst, zChain_eq, onB_bl, tOf, zNotT, zBoT, zBoV, zIf, zNil, zCons, zTup, zPart, zNoPart, zSl, zSlL, zCB, zCBL, zBF, zLM, LM.ty, IC.pv, zAbs, zList, zIsi, zVal, zRng1, zRng2, zEnum, Zz.gNm, Zz.gNil, Zz.gCons, Zz.gTup, zCall, zMt, zAppend, zExtend, zInsert, zPop, zReverse, zRev, zDct0, zDctK, zDctT, zYes, zLc, zwipe, zCmp, zEq, zIs, isNonP, List.map_cons, List.map_nil, List.cons_append, List.nil_append, List.replicate_succ, List.replicate_zero, List.length_cons, List.length_nil, List.set_cons_zero, List.set_cons_succ, List.getElem?_cons_zero, List.getElem?_cons_succ, Option.join_some, Nat.reduceAdd, Nat.reduceSub, Nat.zero_add, isiB, Bool.not_eq_true', decide_eq_false_iff_not, decide_eq_true_eq,  tyP_non, isDct_non, rs_non, tyP_bl, isDct_bl, rs_bl, tyP_int, isDct_int, rs_int, tyP_str, isDct_str, rs_str, tyP_tup, isDct_tup, rs_tup, tyP_lst, isDct_lst, rs_lst, tyP_rol, isDct_rol, rs_rol, tyP_dct, isDct_dct, rs_dct, asL_lst, asL_rol, asS_lst, asS_rol, asS_tup, asW_lst, asT_tup, asL_mset, asS_mset, asW_mset, refL_mset, isDct_mset, tyP_mset, rs_mset, Option.some.injEq, exists_eq_left', true_and, and_true, Bool.not_true, Bool.not_false, Bool.false_eq_true, if_true, if_false, ite_true, ite_false, String.reduceBEq, Bool.or_false, Bool.or_true, Bool.false_or, Bool.true_or, Bool.and_false, Bool.and_true, Bool.true_and, Bool.false_and, reduceIte, PV.int.injEq, exists_const, PV.tup.injEq, PV.lst.injEq, PV.ref.injEq, PV.ty.injEq, zIn, List.all_cons, List.all_nil, List.any_cons, List.any_nil, atP_0, atP_1, atP_2, flat_ints, Zz.any_ints, Nat.zero_le, IC.v, Nat.reduceLeDiff, forall_const, mset_mset, not_true_eq_false, not_false_eq_true, cpow9, pow9, cpow18, pow18, cpow30, pow30, ex2, Bool.true_eq_false, Int.cast_ofNat_Int, Int.ofNat_eq_natCast, flatP_non, flatP_bl, flatP_int, flatP_str, flatP_tup, flatP_lst, flatP_dct, eqF_ss, eqF_ii, eqF_bb, zB_Add_i, zB_Sub_i, zB_Mult_i, zB_FloorDiv_i, zB_Mod_i, zB_Pow_i, zB_BitAnd_i, zB_BitOr_i, zB_Add_s, zB_Add_t, zB_Add_l, zB_Mul_l, zIx_tup, zIx_lst, zIx_rol, zIx_str, zIx_mset, zLen_tup, zLen_lst, zLen_rol, zLen_str, zLen_mset, zInt_i, zInt_b, zTuple_t, zTuple_l, zTuple_m, zMax_ii, zMin_ii, zNeg_i, zNotV_b, zAllAny_l, wL_mset, szl0, szl1, szl2, szl3, szl4, szl5, szl6, szl7, szl8, szl9, szl10, szl11, szl12, szl13, szl14, szl15, szl16, szl17, szl18, szl19, szl20, szl21, szl22, szl23, szl24, szl25, szl26, szl27, szl28, szl29, szl30, szl31, szl32, szl33, szl34, szl35, szl36, szl37, szl38, szl39, szl40, szl41, szl42, szl43, szl44, szl45, szl46, szl47, szl48, szl49, szl50, szl51, szl52, szl53, szl54, szl55, szl56, szl57, szl58, szl59, szl60, szl61, szl62, szl63, szl64, szl65, szl66, szl67, szl68, szl69, frzV_ref, zfrz, Option.map_some, Option.map_none, frzV_non, frzV_bl, frzV_int, frzV_str, frzV_tup, frzV_lst, frzV_rol, frzV_dct]
                  refine ite_any (fun hw => ?_) fun hw => ?_
                  · have hw' : (up == w' || down == w') = false := hw
                    refine no ?_
                    show (decide (1 ≤ n) && decide (n ≤ 4) && (up == w' || down == w')) = false
                    rw [hw']; simp
                  · have hw' : (up == w' || down == w') = true := by cases hq : (up == w' || down == w') with
                      | true => rfl
                      | false => exact absurd hq hw
                    refine ⟨Nat.lt_of_le_of_lt (m := 4) (by rw [List.length_map]; omega) (by decide), hK _ _ ⟨cs ++ [n], _, hr, rfl, by rw [List.map_append]; rfl, ?_, by rw [List.length_append]; simp; omega⟩⟩
                    rw [← e]
                    have hy2 : isPart (.tup [.int n, .str w']) = true := by
                      show (decide (1 ≤ n) && decide (n ≤ 4) && (up == w' || down == w')) = true
                      rw [hw']; simp [g1, g2]
                    simp [goOrder, colOf, hy2, hc]
                | _ =>
                  try simp only [zsp, zSs, zS, zE, zEs, zT, zBoVs, zBoTs, zA, zIfs, zI, zO, zG, zGs, zsCons, zsNil, zsIf, zsRet, zsRetN, zsExpr, zsAsg, zsPar, zsFor, zsSet, zsSetL, zsPass, zsBreak, zsCont, zsFrz, zEnds, zstart, z1, z2, zVar, zGet, zCst, zChain_eq, onB_bl, tOf, zNotT, zBoT, zBoV, zIf, zNil, zCons, zTup, zPart, zNoPart, zSl, zSlL, zCB, zCBL, zBF, zLM, LM.ty, IC.pv, zAbs, zList, zIsi, zVal, zRng1, zRng2, zEnum, Zz.gNm, Zz.gNil, Zz.gCons, Zz.gTup, zCall, zMt, zAppend, zExtend, zInsert, zPop, zReverse, zRev, zDct0, zDctK, zDctT, zYes, zLc, zwipe, zCmp, zEq, zIs, isNonP, List.map_cons, List.map_nil, List.cons_append, List.nil_append, List.replicate_succ, List.replicate_zero, List.length_cons, List.length_nil, List.set_cons_zero, List.set_cons_succ, List.getElem?_cons_zero, List.getElem?_cons_succ, Option.join_some, Nat.reduceAdd, Nat.reduceSub, Nat.zero_add, isiB, Bool.not_eq_true', decide_eq_false_iff_not, decide_eq_true_eq,  tyP_non, isDct_non, rs_non, tyP_bl, isDct_bl, rs_bl, tyP_int, isDct_int, rs_int, tyP_str, isDct_str, rs_str, tyP_tup, isDct_tup, rs_tup, tyP_lst, isDct_lst, rs_lst, tyP_rol, isDct_rol, rs_rol, tyP_dct, isDct_dct, rs_dct, asL_lst, asL_rol, asS_lst, asS_rol, asS_tup, asW_lst, asT_tup, asL_mset, asS_mset, asW_mset, refL_mset, isDct_mset, tyP_mset, rs_mset, Option.some.injEq, exists_eq_left', true_and, and_true, Bool.not_true, Bool.not_false, Bool.false_eq_true, if_true, if_false, ite_true, ite_false, String.reduceBEq, Bool.or_false, Bool.or_true, Bool.false_or, Bool.true_or, Bool.and_false, Bool.and_true, Bool.true_and, Bool.false_and, reduceIte, PV.int.injEq, exists_const, PV.tup.injEq, PV.lst.injEq, PV.ref.injEq, PV.ty.injEq, zIn, List.all_cons, List.all_nil, List.any_cons, List.any_nil, atP_0, atP_1, atP_2, flat_ints, Zz.any_ints, Nat.zero_le, IC.v, Nat.reduceLeDiff, forall_const, mset_mset, not_true_eq_false, not_false_eq_true, cpow9, pow9, cpow18, pow18, cpow30, pow30, ex2, Bool.true_eq_false, Int.cast_ofNat_Int, Int.ofNat_eq_natCast, flatP_non, flatP_bl, flatP_int, flatP_str, flatP_tup, flatP_lst, flatP_dct, eqF_ss, eqF_ii, eqF_bb, zB_Add_i, zB_Sub_i, zB_Mult_i, zB_FloorDiv_i, zB_Mod_i, zB_Pow_i, zB_BitAnd_i, zB_BitOr_i, zB_Add_s, zB_Add_t, zB_Add_l, zB_Mul_l, zIx_tup, zIx_lst, zIx_rol, zIx_str, zIx_mset, zLen_tup, zLen_lst, zLen_rol, zLen_str, zLen_mset, zInt_i, zInt_b, zTuple_t, zTuple_l, zTuple_m, zMax_ii, zMin_ii, zNeg_i, zNotV_b, zAllAny_l, wL_mset, szl0, szl1, szl2, szl3, szl4, szl5, szl6, szl7, szl8, szl9, szl10, szl11, szl12, szl13, szl14, szl15, szl16, szl17, szl18, szl19, szl20, szl21, szl22, szl23, szl24, szl25, szl26, szl27, szl28, szl29, szl30, szl31, szl32, szl33, szl34, szl35, szl36, szl37, szl38, szl39, szl40, szl41, szl42, szl43, szl44, szl45, szl46, szl47, szl48, szl49, szl50, szl51, szl52, szl53, szl54, szl55, szl56, szl57, szl58, szl59, szl60, szl61, szl62, szl63, szl64, szl65, szl66, szl67, szl68, szl69, frzV_ref, zfrz, Option.map_some, Option.map_none, frzV_non, frzV_bl, frzV_int, frzV_str, frzV_tup, frzV_lst, frzV_rol, frzV_dct]
                  first | exact no (by simp [isPart]) | (simp [pl] at hb; done)
              all_goals exact no (by cases b <;> simp [isPart, g1, g2])
            | _ =>
              simp only [isWhole, zsp, zSs, zS, zE, zEs, zT, zBoVs, zBoTs, zA, zIfs, zI, zO, zG, zGs, zsCons, zsNil, zsIf, zsRet, zsRetN, zsExpr, zsAsg, zsPar, zsFor, zsSet, zsSetL, zsPass, zsBreak, zsCont, zsFrz, zEnds, zstart, z1, z2, zVar, zGet, zCst, zChain_eq, onB_bl, tOf, zNotT, zBoT, zBoV, zIf, zNil, zCons, zTup, zPart, zNoPart, zSl, zSlL, zCB, zCBL, zBF, zLM, LM.ty, IC.pv, zAbs, zList, zIsi, zVal, zRng1, zRng2, zEnum, Zz.gNm, Zz.gNil, Zz.gCons, Zz.gTup, zCall, zMt, zAppend, zExtend, zInsert, zPop, zReverse, zRev, zDct0, zDctK, zDctT, zYes, zLc, zwipe, zCmp, zEq, zIs, isNonP, List.map_cons, List.map_nil, List.cons_append, List.nil_append, List.replicate_succ, List.replicate_zero, List.length_cons, List.length_nil, List.set_cons_zero, List.set_cons_succ, List.getElem?_cons_zero, List.getElem?_cons_succ, Option.join_some, Nat.reduceAdd, Nat.reduceSub, Nat.zero_add, isiB, Bool.not_eq_true', decide_eq_false_iff_not, decide_eq_true_eq,  tyP_non, isDct_non, rs_non, tyP_bl, isDct_bl, rs_bl, tyP_int, isDct_int, rs_int, tyP_str, isDct_str, rs_str, tyP_tup, isDct_tup, rs_tup, tyP_lst, isDct_lst, rs_lst, tyP_rol, isDct_rol, rs_rol, tyP_dct, isDct_dct, rs_dct, asL_lst, asL_rol, asS_lst, asS_rol, asS_tup, asW_lst, asT_tup, asL_mset, asS_mset, asW_mset, refL_mset, isDct_mset, tyP_mset, rs_mset, Option.some.injEq, exists_eq_left', true_and, and_true, Bool.not_true, Bool.not_false, Bool.false_eq_true, if_true, if_false, ite_true, ite_false, String.reduceBEq, Bool.or_false, Bool.or_true, Bool.false_or, Bool.true_or, Bool.and_false, Bool.and_true, Bool.true_and, Bool.false_and, reduceIte, PV.int.injEq, exists_const, PV.tup.injEq, PV.lst.injEq, PV.ref.injEq, PV.ty.injEq, zIn, List.all_cons, List.all_nil, List.any_cons, List.any_nil, atP_0, atP_1, atP_2, flat_ints, Zz.any_ints, Nat.zero_le, IC.v, Nat.reduceLeDiff, forall_const, mset_mset, not_true_eq_false, not_false_eq_true, cpow9, pow9, cpow18, pow18, cpow30, pow30, ex2, Bool.true_eq_false, Int.cast_ofNat_Int, Int.ofNat_eq_natCast, flatP_non, flatP_bl, flatP_int, flatP_str, flatP_tup, flatP_lst, flatP_dct, eqF_ss, eqF_ii, eqF_bb, zB_Add_i, zB_Sub_i, zB_Mult_i, zB_FloorDiv_i, zB_Mod_i, zB_Pow_i, zB_BitAnd_i, zB_BitOr_i, zB_Add_s, zB_Add_t, zB_Add_l, zB_Mul_l, zIx_tup, zIx_lst, zIx_rol, zIx_str, zIx_mset, zLen_tup, zLen_lst, zLen_rol, zLen_str, zLen_mset, zInt_i, zInt_b, zTuple_t, zTuple_l, zTuple_m, zMax_ii, zMin_ii, zNeg_i, zNotV_b, zAllAny_l, wL_mset, szl0, szl1, szl2, szl3, szl4, szl5, szl6, szl7, szl8, szl9, szl10, szl11, szl12, szl13, szl14, szl15, szl16, szl17, szl18, szl19, szl20, szl21, szl22, szl23, szl24, szl25, szl26, szl27, szl28, szl29, szl30, szl31, szl32, szl33, szl34, szl35, szl36, szl37, szl38, szl39, szl40, szl41, szl42, szl43, szl44, szl45, szl46, szl47, szl48, szl49, szl50, szl51, szl52, szl53, szl54, szl55, szl56, szl57, szl58, szl59, szl60, szl61, szl62, szl63, szl64, szl65, szl66, szl67, szl68, szl69, frzV_ref, zfrz, Option.map_some, Option.map_none, frzV_non, frzV_bl, frzV_int, frzV_str, frzV_tup, frzV_lst, frzV_rol, frzV_dct]
              first | exact no (by simp [isPart]) | (simp [pl] at ha; done)
        | _ =>
          try simp only [zsp, zSs, zS, zE, zEs, zT, zBoVs, zBoTs, zA, zIfs, zI, zO, zG, zGs, zsCons, zsNil, zsIf, zsRet, zsRetN, zsExpr, zsAsg, zsPar, zsFor, zsSet, zsSetL, zsPass, zsBreak, zsCont, zsFrz, zEnds, zstart, z1, z2, zVar, zGet, zCst, zChain_eq, onB_bl, tOf, zNotT, zBoT, zBoV, zIf, zNil, zCons, zTup, zPart, zNoPart, zSl, zSlL, zCB, zCBL, zBF, zLM, LM.ty, IC.pv, zAbs, zList, zIsi, zVal, zRng1, zRng2, zEnum, Zz.gNm, Zz.gNil, Zz.gCons, Zz.gTup, zCall, zMt, zAppend, zExtend, zInsert, zPop, zReverse, zRev, zDct0, zDctK, zDctT, zYes, zLc, zwipe, zCmp, zEq, zIs, isNonP, List.map_cons, List.map_nil, List.cons_append, List.nil_append, List.replicate_succ, List.replicate_zero, List.length_cons, List.length_nil, List.set_cons_zero, List.set_cons_succ, List.getElem?_cons_zero, List.getElem?_cons_succ, Option.join_some, Nat.reduceAdd, Nat.reduceSub, Nat.zero_add, isiB, Bool.not_eq_true', decide_eq_false_iff_not, decide_eq_true_eq,  tyP_non, isDct_non, rs_non, tyP_bl, isDct_bl, rs_bl, tyP_int, isDct_int, rs_int, tyP_str, isDct_str, rs_str, tyP_tup, isDct_tup, rs_tup, tyP_lst, isDct_lst, rs_lst, tyP_rol, isDct_rol, rs_rol, tyP_dct, isDct_dct, rs_dct, asL_lst, asL_rol, asS_lst, asS_rol, asS_tup, asW_lst, asT_tup, asL_mset, asS_mset, asW_mset, refL_mset, isDct_mset, tyP_mset, rs_mset, Option.some.injEq, exists_eq_left', true_and, and_true, Bool.not_true, Bool.not_false, Bool.false_eq_true, if_true, if_false, ite_true, ite_false, String.reduceBEq, Bool.or_false, Bool.or_true, Bool.false_or, Bool.true_or, Bool.and_false, Bool.and_true, Bool.true_and, Bool.false_and, reduceIte, PV.int.injEq, exists_const, PV.tup.injEq, PV.lst.injEq, PV.ref.injEq, PV.ty.injEq, zIn, List.all_cons, List.all_nil, List.any_cons, List.any_nil, atP_0, atP_1, atP_2, flat_ints, Zz.any_ints, Nat.zero_le, IC.v, Nat.reduceLeDiff, forall_const, mset_mset, not_true_eq_false, not_false_eq_true, cpow9, pow9, cpow18, pow18, cpow30, pow30, ex2, Bool.true_eq_false, Int.cast_ofNat_Int, Int.ofNat_eq_natCast, flatP_non, flatP_bl, flatP_int, flatP_str, flatP_tup, flatP_lst, flatP_dct, eqF_ss, eqF_ii, eqF_bb, zB_Add_i, zB_Sub_i, zB_Mult_i, zB_FloorDiv_i, zB_Mod_i, zB_Pow_i, zB_BitAnd_i, zB_BitOr_i, zB_Add_s, zB_Add_t, zB_Add_l, zB_Mul_l, zIx_tup, zIx_lst, zIx_rol, zIx_str, zIx_mset, zLen_tup, zLen_lst, zLen_rol, zLen_str, zLen_mset, zInt_i, zInt_b, zTuple_t, zTuple_l, zTuple_m, zMax_ii, zMin_ii, zNeg_i, zNotV_b, zAllAny_l, wL_mset, szl0, szl1, szl2, szl3, szl4, szl5, szl6, szl7, szl8, szl9, szl10, szl11, szl12, szl13, szl14, szl15, szl16, szl17, szl18, szl19, szl20, szl21, szl22, szl23, szl24, szl25, szl26, szl27, szl28, szl29, szl30, szl31, szl32, szl33, szl34, szl35, szl36, szl37, szl38, szl39, szl40, szl41, szl42, szl43, szl44, szl45, szl46, szl47, szl48, szl49, szl50, szl51, szl52, szl53, szl54, szl55, szl56, szl57, szl58, szl59, szl60, szl61, szl62, szl63, szl64, szl65, szl66, szl67, szl68, szl69, frzV_ref, zfrz, Option.map_some, Option.map_none, frzV_non, frzV_bl, frzV_int, frzV_str, frzV_tup, frzV_lst, frzV_rol, frzV_dct]
          first | exact no (by simp [isPart]) | (simp [pl] at hy; done)
    all_goals
      apply ret_same
      have h1' : decide (1 ≤ ks.length) = decide (1 ≤ (ks.length : Int)) := by simp; omega
      have h2' : decide (ks.length ≤ 4) = decide ((ks.length : Int) ≤ 4) := by simp; omega
      simpa [isOrder, h1', h2', h1, h2] using q
  | _ =>
    simp only [ir_L_is_order, N_L_is_order, zsp, zSs, zS, zE, zEs, zT, zBoVs, zBoTs, zA, zIfs, zI, zO, zG, zGs, zsCons, zsNil, zsIf, zsRet, zsRetN, zsExpr, zsAsg, zsPar, zsFor, zsSet, zsSetL, zsPass, zsBreak, zsCont, zsFrz, zEnds, zstart, z1, z2, zVar, zGet, zCst, zChain_eq, onB_bl, tOf, zNotT, zBoT, zBoV, zIf, zNil, zCons, zTup, zPart, zNoPart, zSl, zSlL, zCB, zCBL, zBF, zLM, LM.ty, IC.pv, zAbs, zList, zIsi, zVal, zRng1, zRng2, zEnum, Zz.gNm, Zz.gNil, Zz.gCons, Zz.gTup, zCall, zMt, zAppend, zExtend, zInsert, zPop, zReverse, zRev, zDct0, zDctK, zDctT, zYes, zLc, zwipe, zCmp, zEq, zIs, isNonP, List.map_cons, List.map_nil, List.cons_append, List.nil_append, List.replicate_succ, List.replicate_zero, List.length_cons, List.length_nil, List.set_cons_zero, List.set_cons_succ, List.getElem?_cons_zero, List.getElem?_cons_succ, Option.join_some, Nat.reduceAdd, Nat.reduceSub, Nat.zero_add, isiB, Bool.not_eq_true', decide_eq_false_iff_not, decide_eq_true_eq,  tyP_non, isDct_non, rs_non, tyP_bl, isDct_bl, rs_bl, tyP_int, isDct_int, rs_int, tyP_str, isDct_str, rs_str, tyP_tup, isDct_tup, rs_tup, tyP_lst, isDct_lst, rs_lst, tyP_rol, isDct_rol, rs_rol, tyP_dct, isDct_dct, rs_dct, asL_lst, asL_rol, asS_lst, asS_rol, asS_tup, asW_lst, asT_tup, asL_mset, asS_mset, asW_mset, refL_mset, isDct_mset, tyP_mset, rs_mset, Option.some.injEq, exists_eq_left', true_and, and_true, Bool.not_true, Bool.not_false, Bool.false_eq_true, if_true, if_false, ite_true, ite_false, String.reduceBEq, Bool.or_false, Bool.or_true, Bool.false_or, Bool.true_or, Bool.and_false, Bool.and_true, Bool.true_and, Bool.false_and, reduceIte, PV.int.injEq, exists_const, PV.tup.injEq, PV.lst.injEq, PV.ref.injEq, PV.ty.injEq, zIn, List.all_cons, List.all_nil, List.any_cons, List.any_nil, atP_0, atP_1, atP_2, flat_ints, Zz.any_ints, Nat.zero_le, IC.v, Nat.reduceLeDiff, forall_const, mset_mset, not_true_eq_false, not_false_eq_true, cpow9, pow9, cpow18, pow18, cpow30, pow30, ex2, Bool.true_eq_false, Int.cast_ofNat_Int, Int.ofNat_eq_natCast, flatP_non, flatP_bl, flatP_int, flatP_str, flatP_tup, flatP_lst, flatP_dct, eqF_ss, eqF_ii, eqF_bb, zB_Add_i, zB_Sub_i, zB_Mult_i, zB_FloorDiv_i, zB_Mod_i, zB_Pow_i, zB_BitAnd_i, zB_BitOr_i, zB_Add_s, zB_Add_t, zB_Add_l, zB_Mul_l, zIx_tup, zIx_lst, zIx_rol, zIx_str, zIx_mset, zLen_tup, zLen_lst, zLen_rol, zLen_str, zLen_mset, zInt_i, zInt_b, zTuple_t, zTuple_l, zTuple_m, zMax_ii, zMin_ii, zNeg_i, zNotV_b, zAllAny_l, wL_mset, szl0, szl1, szl2, szl3, szl4, szl5, szl6, szl7, szl8, szl9, szl10, szl11, szl12, szl13, szl14, szl15, szl16, szl17, szl18, szl19, szl20, szl21, szl22, szl23, szl24, szl25, szl26, szl27, szl28, szl29, szl30, szl31, szl32, szl33, szl34, szl35, szl36, szl37, szl38, szl39, szl40, szl41, szl42, szl43, szl44, szl45, szl46, szl47, szl48, szl49, szl50, szl51, szl52, szl53, szl54, szl55, szl56, szl57, szl58, szl59, szl60, szl61, szl62, szl63, szl64, szl65, szl66, szl67, szl68, szl69, frzV_ref, zfrz, Option.map_some, Option.map_none, frzV_non, frzV_bl, frzV_int, frzV_str, frzV_tup, frzV_lst, frzV_rol, frzV_dct]
    first | exact ret_same q | (simp [pl] at h; done)
theorem sp_L_truth {a b : Bool} (q : Q (.bl (a == b)) M) : ZCall T (k + 1) "_law_truth" [.bl a, .bl b] M Q X := by
  apply call_L_truth E rfl
  simp only [ir_L_truth, N_L_truth, zsp, zSs, zS, zE, zEs, zT, zBoVs, zBoTs, zA, zIfs, zI, zO, zG, zGs, zsCons, zsNil, zsIf, zsRet, zsRetN, zsExpr, zsAsg, zsPar, zsFor, zsSet, zsSetL, zsPass, zsBreak, zsCont, zsFrz, zEnds, zstart, z1, z2, zVar, zGet, zCst, zChain_eq, onB_bl, tOf, zNotT, zBoT, zBoV, zIf, zNil, zCons, zTup, zPart, zNoPart, zSl, zSlL, zCB, zCBL, zBF, zLM, LM.ty, IC.pv, zAbs, zList, zIsi, zVal, zRng1, zRng2, zEnum, Zz.gNm, Zz.gNil, Zz.gCons, Zz.gTup, zCall, zMt, zAppend, zExtend, zInsert, zPop, zReverse, zRev, zDct0, zDctK, zDctT, zYes, zLc, zwipe, zCmp, zEq, zIs, isNonP, List.map_cons, List.map_nil, List.cons_append, List.nil_append, List.replicate_succ, List.replicate_zero, List.length_cons, List.length_nil, List.set_cons_zero, List.set_cons_succ, List.getElem?_cons_zero, List.getElem?_cons_succ, Option.join_some, Nat.reduceAdd, Nat.reduceSub, Nat.zero_add, isiB, Bool.not_eq_true', decide_eq_false_iff_not, decide_eq_true_eq,  tyP_non, isDct_non, rs_non, tyP_bl, isDct_bl, rs_bl, tyP_int, isDct_int, rs_int, tyP_str, isDct_str, rs_str, tyP_tup, isDct_tup, rs_tup, tyP_lst, isDct_lst, rs_lst, tyP_rol, isDct_rol, rs_rol, tyP_dct, isDct_dct, rs_dct, asL_lst, asL_rol, asS_lst, asS_rol, asS_tup, asW_lst, asT_tup, asL_mset, asS_mset, asW_mset, refL_mset, isDct_mset, tyP_mset, rs_mset, Option.some.injEq, exists_eq_left', true_and, and_true, Bool.not_true, Bool.not_false, Bool.false_eq_true, if_true, if_false, ite_true, ite_false, String.reduceBEq, Bool.or_false, Bool.or_true, Bool.false_or, Bool.true_or, Bool.and_false, Bool.and_true, Bool.true_and, Bool.false_and, reduceIte, PV.int.injEq, exists_const, PV.tup.injEq, PV.lst.injEq, PV.ref.injEq, PV.ty.injEq, zIn, List.all_cons, List.all_nil, List.any_cons, List.any_nil, atP_0, atP_1, atP_2, flat_ints, Zz.any_ints, Nat.zero_le, IC.v, Nat.reduceLeDiff, forall_const, mset_mset, not_true_eq_false, not_false_eq_true, cpow9, pow9, cpow18, pow18, cpow30, pow30, ex2, Bool.true_eq_false, Int.cast_ofNat_Int, Int.ofNat_eq_natCast, flatP_non, flatP_bl, flatP_int, flatP_str, flatP_tup, flatP_lst, flatP_dct, eqF_ss, eqF_ii, eqF_bb, zB_Add_i, zB_Sub_i, zB_Mult_i, zB_FloorDiv_i, zB_Mod_i, zB_Pow_i, zB_BitAnd_i, zB_BitOr_i, zB_Add_s, zB_Add_t, zB_Add_l, zB_Mul_l, zIx_tup, zIx_lst, zIx_rol, zIx_str, zIx_mset, zLen_tup, zLen_lst, zLen_rol, zLen_str, zLen_mset, zInt_i, zInt_b, zTuple_t, zTuple_l, zTuple_m, zMax_ii, zMin_ii, zNeg_i, zNotV_b, zAllAny_l, wL_mset, szl0, szl1, szl2, szl3, szl4, szl5, szl6, szl7, szl8, szl9, szl10, szl11, szl12, szl13, szl14, szl15, szl16, szl17, szl18, szl19, szl20, szl21, szl22, szl23, szl24, szl25, szl26, szl27, szl28, szl29, szl30, szl31, szl32, szl33, szl34, szl35, szl36, szl37, szl38, szl39, szl40, szl41, szl42, szl43, szl44, szl45, szl46, szl47, szl48, szl49, szl50, szl51, szl52, szl53, szl54, szl55, szl56, szl57, szl58, szl59, szl60, szl61, szl62, szl63, szl64, szl65, szl66, szl67, szl68, szl69, frzV_ref, zfrz, Option.map_some, Option.map_none, frzV_non, frzV_bl, frzV_int, frzV_str, frzV_tup, frzV_lst, frzV_rol, frzV_dct]
  apply ret_same
  have : (a == b) = decide (a = b) := by cases a <;> cases b <;> rfl
  rw [← this]; exact q
theorem sp_L_told_right (h : pl x = true) (q : Q (.bl true) M) : ZCall T (k + 6) "_law_told_right" [x] M Q X := by
  apply call_L_told_right E rfl
  simp only [ir_L_told_right, N_L_told_right, zsp, zSs, zS, zE, zEs, zT, zBoVs, zBoTs, zA, zIfs, zI, zO, zG, zGs, zsCons, zsNil, zsIf, zsRet, zsRetN, zsExpr, zsAsg, zsPar, zsFor, zsSet, zsSetL, zsPass, zsBreak, zsCont, zsFrz, zEnds, zstart, z1, z2, zVar, zGet, zCst, zChain_eq, onB_bl, tOf, zNotT, zBoT, zBoV, zIf, zNil, zCons, zTup, zPart, zNoPart, zSl, zSlL, zCB, zCBL, zBF, zLM, LM.ty, IC.pv, zAbs, zList, zIsi, zVal, zRng1, zRng2, zEnum, Zz.gNm, Zz.gNil, Zz.gCons, Zz.gTup, zCall, zMt, zAppend, zExtend, zInsert, zPop, zReverse, zRev, zDct0, zDctK, zDctT, zYes, zLc, zwipe, zCmp, zEq, zIs, isNonP, List.map_cons, List.map_nil, List.cons_append, List.nil_append, List.replicate_succ, List.replicate_zero, List.length_cons, List.length_nil, List.set_cons_zero, List.set_cons_succ, List.getElem?_cons_zero, List.getElem?_cons_succ, Option.join_some, Nat.reduceAdd, Nat.reduceSub, Nat.zero_add, isiB, Bool.not_eq_true', decide_eq_false_iff_not, decide_eq_true_eq,  tyP_non, isDct_non, rs_non, tyP_bl, isDct_bl, rs_bl, tyP_int, isDct_int, rs_int, tyP_str, isDct_str, rs_str, tyP_tup, isDct_tup, rs_tup, tyP_lst, isDct_lst, rs_lst, tyP_rol, isDct_rol, rs_rol, tyP_dct, isDct_dct, rs_dct, asL_lst, asL_rol, asS_lst, asS_rol, asS_tup, asW_lst, asT_tup, asL_mset, asS_mset, asW_mset, refL_mset, isDct_mset, tyP_mset, rs_mset, Option.some.injEq, exists_eq_left', true_and, and_true, Bool.not_true, Bool.not_false, Bool.false_eq_true, if_true, if_false, ite_true, ite_false, String.reduceBEq, Bool.or_false, Bool.or_true, Bool.false_or, Bool.true_or, Bool.and_false, Bool.and_true, Bool.true_and, Bool.false_and, reduceIte, PV.int.injEq, exists_const, PV.tup.injEq, PV.lst.injEq, PV.ref.injEq, PV.ty.injEq, zIn, List.all_cons, List.all_nil, List.any_cons, List.any_nil, atP_0, atP_1, atP_2, flat_ints, Zz.any_ints, Nat.zero_le, IC.v, Nat.reduceLeDiff, forall_const, mset_mset, not_true_eq_false, not_false_eq_true, cpow9, pow9, cpow18, pow18, cpow30, pow30, ex2, Bool.true_eq_false, Int.cast_ofNat_Int, Int.ofNat_eq_natCast, flatP_non, flatP_bl, flatP_int, flatP_str, flatP_tup, flatP_lst, flatP_dct, eqF_ss, eqF_ii, eqF_bb, zB_Add_i, zB_Sub_i, zB_Mult_i, zB_FloorDiv_i, zB_Mod_i, zB_Pow_i, zB_BitAnd_i, zB_BitOr_i, zB_Add_s, zB_Add_t, zB_Add_l, zB_Mul_l, zIx_tup, zIx_lst, zIx_rol, zIx_str, zIx_mset, zLen_tup, zLen_lst, zLen_rol, zLen_str, zLen_mset, zInt_i, zInt_b, zTuple_t, zTuple_l, zTuple_m, zMax_ii, zMin_ii, zNeg_i, zNotV_b, zAllAny_l, wL_mset, szl0, szl1, szl2, szl3, szl4, szl5, szl6, szl7, szl8, szl9, szl10, szl11, szl12, szl13, szl14, szl15, szl16, szl17, szl18, szl19, szl20, szl21, szl22, szl23, szl24, szl25, szl26, szl27, szl28, szl29, szl30, szl31, szl32, szl33, szl34, szl35, szl36, szl37, szl38, szl39, szl40, szl41, szl42, szl43, szl44, szl45, szl46, szl47, szl48, szl49, szl50, szl51, szl52, szl53, szl54, szl55, szl56, szl57, szl58, szl59, szl60, szl61, szl62, szl63, szl64, szl65, szl66, szl67, szl68, szl69, frzV_ref, zfrz, Option.map_some, Option.map_none, frzV_non, frzV_bl, frzV_int, frzV_str, frzV_tup, frzV_lst, frzV_rol, frzV_dct]
  refine sp_is_thing E h ?_
  refine sp_L_is_thing E h ?_
  refine sp_L_truth E ?_
  simp only [beq_self_eq_true, zsp, zSs, zS, zE, zEs, zT, zBoVs, zBoTs, zA, zIfs, zI, zO, zG, zGs, zsCons, zsNil, zsIf, zsRet, zsRetN, zsExpr, zsAsg, zsPar, zsFor, zsSet, zsSetL, zsPass, zsBreak, zsCont, zsFrz, zEnds, zstart, z1, z2, zVar, zGet, zCst, zChain_eq, onB_bl, tOf, zNotT, zBoT, zBoV, zIf, zNil, zCons, zTup, zPart, zNoPart, zSl, zSlL, zCB, zCBL, zBF, zLM, LM.ty, IC.pv, zAbs, zList, zIsi, zVal, zRng1, zRng2, zEnum, Zz.gNm, Zz.gNil, Zz.gCons, Zz.gTup, zCall, zMt, zAppend, zExtend, zInsert, zPop, zReverse, zRev, zDct0, zDctK, zDctT, zYes, zLc, zwipe, zCmp, zEq, zIs, isNonP, List.map_cons, List.map_nil, List.cons_append, List.nil_append, List.replicate_succ, List.replicate_zero, List.length_cons, List.length_nil, List.set_cons_zero, List.set_cons_succ, List.getElem?_cons_zero, List.getElem?_cons_succ, Option.join_some, Nat.reduceAdd, Nat.reduceSub, Nat.zero_add, isiB, Bool.not_eq_true', decide_eq_false_iff_not, decide_eq_true_eq,  tyP_non, isDct_non, rs_non, tyP_bl, isDct_bl, rs_bl, tyP_int, isDct_int, rs_int, tyP_str, isDct_str, rs_str, tyP_tup, isDct_tup, rs_tup, tyP_lst, isDct_lst, rs_lst, tyP_rol, isDct_rol, rs_rol, tyP_dct, isDct_dct, rs_dct, asL_lst, asL_rol, asS_lst, asS_rol, asS_tup, asW_lst, asT_tup, asL_mset, asS_mset, asW_mset, refL_mset, isDct_mset, tyP_mset, rs_mset, Option.some.injEq, exists_eq_left', true_and, and_true, Bool.not_true, Bool.not_false, Bool.false_eq_true, if_true, if_false, ite_true, ite_false, String.reduceBEq, Bool.or_false, Bool.or_true, Bool.false_or, Bool.true_or, Bool.and_false, Bool.and_true, Bool.true_and, Bool.false_and, reduceIte, PV.int.injEq, exists_const, PV.tup.injEq, PV.lst.injEq, PV.ref.injEq, PV.ty.injEq, zIn, List.all_cons, List.all_nil, List.any_cons, List.any_nil, atP_0, atP_1, atP_2, flat_ints, Zz.any_ints, Nat.zero_le, IC.v, Nat.reduceLeDiff, forall_const, mset_mset, not_true_eq_false, not_false_eq_true, cpow9, pow9, cpow18, pow18, cpow30, pow30, ex2, Bool.true_eq_false, Int.cast_ofNat_Int, Int.ofNat_eq_natCast, flatP_non, flatP_bl, flatP_int, flatP_str, flatP_tup, flatP_lst, flatP_dct, eqF_ss, eqF_ii, eqF_bb, zB_Add_i, zB_Sub_i, zB_Mult_i, zB_FloorDiv_i, zB_Mod_i, zB_Pow_i, zB_BitAnd_i, zB_BitOr_i, zB_Add_s, zB_Add_t, zB_Add_l, zB_Mul_l, zIx_tup, zIx_lst, zIx_rol, zIx_str, zIx_mset, zLen_tup, zLen_lst, zLen_rol, zLen_str, zLen_mset, zInt_i, zInt_b, zTuple_t, zTuple_l, zTuple_m, zMax_ii, zMin_ii, zNeg_i, zNotV_b, zAllAny_l, wL_mset, szl0, szl1, szl2, szl3, szl4, szl5, szl6, szl7, szl8, szl9, szl10, szl11, szl12, szl13, szl14, szl15, szl16, szl17, szl18, szl19, szl20, szl21, szl22, szl23, szl24, szl25, szl26, szl27, szl28, szl29, szl30, szl31, szl32, szl33, szl34, szl35, szl36, szl37, szl38, szl39, szl40, szl41, szl42, szl43, szl44, szl45, szl46, szl47, szl48, szl49, szl50, szl51, szl52, szl53, szl54, szl55, szl56, szl57, szl58, szl59, szl60, szl61, szl62, szl63, szl64, szl65, szl66, szl67, szl68, szl69, frzV_ref, zfrz, Option.map_some, Option.map_none, frzV_non, frzV_bl, frzV_int, frzV_str, frzV_tup, frzV_lst, frzV_rol, frzV_dct]
  refine sp_is_row E h ?_
  refine sp_L_is_row E h ?_
  refine sp_L_truth E ?_
  simp only [beq_self_eq_true, zsp, zSs, zS, zE, zEs, zT, zBoVs, zBoTs, zA, zIfs, zI, zO, zG, zGs, zsCons, zsNil, zsIf, zsRet, zsRetN, zsExpr, zsAsg, zsPar, zsFor, zsSet, zsSetL, zsPass, zsBreak, zsCont, zsFrz, zEnds, zstart, z1, z2, zVar, zGet, zCst, zChain_eq, onB_bl, tOf, zNotT, zBoT, zBoV, zIf, zNil, zCons, zTup, zPart, zNoPart, zSl, zSlL, zCB, zCBL, zBF, zLM, LM.ty, IC.pv, zAbs, zList, zIsi, zVal, zRng1, zRng2, zEnum, Zz.gNm, Zz.gNil, Zz.gCons, Zz.gTup, zCall, zMt, zAppend, zExtend, zInsert, zPop, zReverse, zRev, zDct0, zDctK, zDctT, zYes, zLc, zwipe, zCmp, zEq, zIs, isNonP, List.map_cons, List.map_nil, List.cons_append, List.nil_append, List.replicate_succ, List.replicate_zero, List.length_cons, List.length_nil, List.set_cons_zero, List.set_cons_succ, List.getElem?_cons_zero, List.getElem?_cons_succ, Option.join_some, Nat.reduceAdd, Nat.reduceSub, Nat.zero_add, isiB, Bool.not_eq_true', decide_eq_false_iff_not, decide_eq_true_eq,  tyP_non, isDct_non, rs_non, tyP_bl, isDct_bl, rs_bl, tyP_int, isDct_int, rs_int, tyP_str, isDct_str, rs_str, tyP_tup, isDct_tup, rs_tup, tyP_lst, isDct_lst, rs_lst, tyP_rol, isDct_rol, rs_rol, tyP_dct, isDct_dct, rs_dct, asL_lst, asL_rol, asS_lst, asS_rol, asS_tup, asW_lst, asT_tup, asL_mset, asS_mset, asW_mset, refL_mset, isDct_mset, tyP_mset, rs_mset, Option.some.injEq, exists_eq_left', true_and, and_true, Bool.not_true, Bool.not_false, Bool.false_eq_true, if_true, if_false, ite_true, ite_false, String.reduceBEq, Bool.or_false, Bool.or_true, Bool.false_or, Bool.true_or, Bool.and_false, Bool.and_true, Bool.true_and, Bool.false_and, reduceIte, PV.int.injEq, exists_const, PV.tup.injEq, PV.lst.injEq, PV.ref.injEq, PV.ty.injEq, zIn, List.all_cons, List.all_nil, List.any_cons, List.any_nil, atP_0, atP_1, atP_2, flat_ints, Zz.any_ints, Nat.zero_le, IC.v, Nat.reduceLeDiff, forall_const, mset_mset, not_true_eq_false, not_false_eq_true, cpow9, pow9, cpow18, pow18, cpow30, pow30, ex2, Bool.true_eq_false, Int.cast_ofNat_Int, Int.ofNat_eq_natCast, flatP_non, flatP_bl, flatP_int, flatP_str, flatP_tup, flatP_lst, flatP_dct, eqF_ss, eqF_ii, eqF_bb, zB_Add_i, zB_Sub_i, zB_Mult_i, zB_FloorDiv_i, zB_Mod_i, zB_Pow_i, zB_BitAnd_i, zB_BitOr_i, zB_Add_s, zB_Add_t, zB_Add_l, zB_Mul_l, zIx_tup, zIx_lst, zIx_rol, zIx_str, zIx_mset, zLen_tup, zLen_lst, zLen_rol, zLen_str, zLen_mset, zInt_i, zInt_b, zTuple_t, zTuple_l, zTuple_m, zMax_ii, zMin_ii, zNeg_i, zNotV_b, zAllAny_l, wL_mset, szl0, szl1, szl2, szl3, szl4, szl5, szl6, szl7, szl8, szl9, szl10, szl11, szl12, szl13, szl14, szl15, szl16, szl17, szl18, szl19, szl20, szl21, szl22, szl23, szl24, szl25, szl26, szl27, szl28, szl29, szl30, szl31, szl32, szl33, szl34, szl35, szl36, szl37, szl38, szl39, szl40, szl41, szl42, szl43, szl44, szl45, szl46, szl47, szl48, szl49, szl50, szl51, szl52, szl53, szl54, szl55, szl56, szl57, szl58, szl59, szl60, szl61, szl62, szl63, szl64, szl65, szl66, szl67, szl68, szl69, frzV_ref, zfrz, Option.map_some, Option.map_none, frzV_non, frzV_bl, frzV_int, frzV_str, frzV_tup, frzV_lst, frzV_rol, frzV_dct]
  refine sp_is_order E h ?_
  refine sp_L_is_order E h ?_
  refine sp_L_truth E ?_
  simp only [beq_self_eq_true, zsp, zSs, zS, zE, zEs, zT, zBoVs, zBoTs, zA, zIfs, zI, zO, zG, zGs, zsCons, zsNil, zsIf, zsRet, zsRetN, zsExpr, zsAsg, zsPar, zsFor, zsSet, zsSetL, zsPass, zsBreak, zsCont, zsFrz, zEnds, zstart, z1, z2, zVar, zGet, zCst, zChain_eq, onB_bl, tOf, zNotT, zBoT, zBoV, zIf, zNil, zCons, zTup, zPart, zNoPart, zSl, zSlL, zCB, zCBL, zBF, zLM, LM.ty, IC.pv, zAbs, zList, zIsi, zVal, zRng1, zRng2, zEnum, Zz.gNm, Zz.gNil, Zz.gCons, Zz.gTup, zCall, zMt, zAppend, zExtend, zInsert, zPop, zReverse, zRev, zDct0, zDctK, zDctT, zYes, zLc, zwipe, zCmp, zEq, zIs, isNonP, List.map_cons, List.map_nil, List.cons_append, List.nil_append, List.replicate_succ, List.replicate_zero, List.length_cons, List.length_nil, List.set_cons_zero, List.set_cons_succ, List.getElem?_cons_zero, List.getElem?_cons_succ, Option.join_some, Nat.reduceAdd, Nat.reduceSub, Nat.zero_add, isiB, Bool.not_eq_true', decide_eq_false_iff_not, decide_eq_true_eq,  tyP_non, isDct_non, rs_non, tyP_bl, isDct_bl, rs_bl, tyP_int, isDct_int, rs_int, tyP_str, isDct_str, rs_str, tyP_tup, isDct_tup, rs_tup, tyP_lst, isDct_lst, rs_lst, tyP_rol, isDct_rol, rs_rol, tyP_dct, isDct_dct, rs_dct, asL_lst, asL_rol, asS_lst, asS_rol, asS_tup, asW_lst, asT_tup, asL_mset, asS_mset, asW_mset, refL_mset, isDct_mset, tyP_mset, rs_mset, Option.some.injEq, exists_eq_left', true_and, and_true, Bool.not_true, Bool.not_false, Bool.false_eq_true, if_true, if_false, ite_true, ite_false, String.reduceBEq, Bool.or_false, Bool.or_true, Bool.false_or, Bool.true_or, Bool.and_false, Bool.and_true, Bool.true_and, Bool.false_and, reduceIte, PV.int.injEq, exists_const, PV.tup.injEq, PV.lst.injEq, PV.ref.injEq, PV.ty.injEq, zIn, List.all_cons, List.all_nil, List.any_cons, List.any_nil, atP_0, atP_1, atP_2, flat_ints, Zz.any_ints, Nat.zero_le, IC.v, Nat.reduceLeDiff, forall_const, mset_mset, not_true_eq_false, not_false_eq_true, cpow9, pow9, cpow18, pow18, cpow30, pow30, ex2, Bool.true_eq_false, Int.cast_ofNat_Int, Int.ofNat_eq_natCast, flatP_non, flatP_bl, flatP_int, flatP_str, flatP_tup, flatP_lst, flatP_dct, eqF_ss, eqF_ii, eqF_bb, zB_Add_i, zB_Sub_i, zB_Mult_i, zB_FloorDiv_i, zB_Mod_i, zB_Pow_i, zB_BitAnd_i, zB_BitOr_i, zB_Add_s, zB_Add_t, zB_Add_l, zB_Mul_l, zIx_tup, zIx_lst, zIx_rol, zIx_str, zIx_mset, zLen_tup, zLen_lst, zLen_rol, zLen_str, zLen_mset, zInt_i, zInt_b, zTuple_t, zTuple_l, zTuple_m, zMax_ii, zMin_ii, zNeg_i, zNotV_b, zAllAny_l, wL_mset, szl0, szl1, szl2, szl3, szl4, szl5, szl6, szl7, szl8, szl9, szl10, szl11, szl12, szl13, szl14, szl15, szl16, szl17, szl18, szl19, szl20, szl21, szl22, szl23, szl24, szl25, szl26, szl27, szl28, szl29, szl30, szl31, szl32, szl33, szl34, szl35, szl36, szl37, szl38, szl39, szl40, szl41, szl42, szl43, szl44, szl45, szl46, szl47, szl48, szl49, szl50, szl51, szl52, szl53, szl54, szl55, szl56, szl57, szl58, szl59, szl60, szl61, szl62, szl63, szl64, szl65, szl66, szl67, szl68, szl69, frzV_ref, zfrz, Option.map_some, Option.map_none, frzV_non, frzV_bl, frzV_int, frzV_str, frzV_tup, frzV_lst, frzV_rol, frzV_dct]
  exact ret_same q
end
end Lk01
end
section
namespace Lk01
open PySem PySem.Spec PyProof.Rows L2 Zz
section
variable {T : Tx} (E : EnvT T) {k : Nat} {x : PV} {M : Mem} {Q : ZK} {X : ZX}
include E
theorem sp_L_cell {ns : List Int} {i : Nat} (h0 : i ≤ 63) (q : ∀ n, Q (.int n) M) : ZCall T (k + 1) "_law_cell" [.rol (ns.map .int), .int i] M Q X := by
  apply call_L_cell E rfl
  simp only [ir_L_cell, N_L_cell, zsp, zSs, zS, zE, zEs, zT, zBoVs, zBoTs, zA, zIfs, zI, zO, zG, zGs, zsCons, zsNil, zsIf, zsRet, zsRetN, zsExpr, zsAsg, zsPar, zsFor, zsSet, zsSetL, zsPass, zsBreak, zsCont, zsFrz, zEnds, zstart, z1, z2, zVar, zGet, zCst, zChain_eq, onB_bl, tOf, zNotT, zBoT, zBoV, zIf, zNil, zCons, zTup, zPart, zNoPart, zSl, zSlL, zCB, zCBL, zBF, zLM, LM.ty, IC.pv, zAbs, zList, zIsi, zVal, zRng1, zRng2, zEnum, Zz.gNm, Zz.gNil, Zz.gCons, Zz.gTup, zCall, zMt, zAppend, zExtend, zInsert, zPop, zReverse, zRev, zDct0, zDctK, zDctT, zYes, zLc, zwipe, zCmp, zEq, zIs, isNonP, List.map_cons, List.map_nil, List.cons_append, List.nil_append, List.replicate_succ, List.replicate_zero, List.length_cons, List.length_nil, List.set_cons_zero, List.set_cons_succ, List.getElem?_cons_zero, List.getElem?_cons_succ, Option.join_some, Nat.reduceAdd, Nat.reduceSub, Nat.zero_add, isiB, Bool.not_eq_true', decide_eq_false_iff_not, decide_eq_true_eq,  tyP_non, isDct_non, rs_non, tyP_bl, isDct_bl, rs_bl, tyP_int, isDct_int, rs_int, tyP_str, isDct_str, rs_str, tyP_tup, isDct_tup, rs_tup, tyP_lst, isDct_lst, rs_lst, tyP_rol, isDct_rol, rs_rol, tyP_dct, isDct_dct, rs_dct, asL_lst, asL_rol, asS_lst, asS_rol, asS_tup, asW_lst, asT_tup, asL_mset, asS_mset, asW_mset, refL_mset, isDct_mset, tyP_mset, rs_mset, Option.some.injEq, exists_eq_left', true_and, and_true, Bool.not_true, Bool.not_false, Bool.false_eq_true, if_true, if_false, ite_true, ite_false, String.reduceBEq, Bool.or_false, Bool.or_true, Bool.false_or, Bool.true_or, Bool.and_false, Bool.and_true, Bool.true_and, Bool.false_and, reduceIte, PV.int.injEq, exists_const, PV.tup.injEq, PV.lst.injEq, PV.ref.injEq, PV.ty.injEq, zIn, List.all_cons, List.all_nil, List.any_cons, List.any_nil, atP_0, atP_1, atP_2, flat_ints, Zz.any_ints, Nat.zero_le, IC.v, Nat.reduceLeDiff, forall_const, mset_mset, not_true_eq_false, not_false_eq_true, cpow9, pow9, cpow18, pow18, cpow30, pow30, ex2, Bool.true_eq_false, Int.cast_ofNat_Int, Int.ofNat_eq_natCast, flatP_non, flatP_bl, flatP_int, flatP_str, flatP_tup, flatP_lst, flatP_dct, eqF_ss, eqF_ii, eqF_bb, zB_Add_i, zB_Sub_i, zB_Mult_i, zB_FloorDiv_i, zB_Mod_i, zB_Pow_i, zB_BitAnd_i, zB_BitOr_i, zB_Add_s, zB_Add_t, zB_Add_l, zB_Mul_l, zIx_tup, zIx_lst, zIx_rol, zIx_str, zIx_mset, zLen_tup, zLen_lst, zLen_rol, zLen_str, zLen_mset, zInt_i, zInt_b, zTuple_t, zTuple_l, zTuple_m, zMax_ii, zMin_ii, zNeg_i, zNotV_b, zAllAny_l, wL_mset, szl0, szl1, szl2, szl3, szl4, szl5, szl6, szl7, szl8, szl9, szl10, szl11, szl12, szl13, szl14, szl15, szl16, szl17, szl18, szl19, szl20, szl21, szl22, szl23, szl24, szl25, szl26, szl27, szl28, szl29, szl30, szl31, szl32, szl33, szl34, szl35, szl36, szl37, szl38, szl39, szl40, szl41, szl42, szl43, szl44, szl45, szl46, szl47, szl48, szl49, szl50, szl51, szl52, szl53, szl54, szl55, szl56, szl57, szl58, szl59, szl60, szl61, szl62, szl63, szl64, szl65, szl66, szl67, szl68, szl69, frzV_ref, zfrz, Option.map_some, Option.map_none, frzV_non, frzV_bl, frzV_int, frzV_str, frzV_tup, frzV_lst, frzV_rol, frzV_dct]
  refine ite_any (fun h => ?_) fun _ => ?_
  · refine atP_all (by omega) h fun y hy => ?_
    obtain ⟨n, _, rfl⟩ := List.mem_map.mp hy
    exact ret_same (q n)
  · have hb : (i : Int) * i ≤ 63 * 63 := Int.mul_le_mul (by omega) (by omega) (by omega) (by omega)
    have hb0 : 0 ≤ (i : Int) * i := Int.mul_nonneg (by omega) (by omega)
    refine ⟨mulW (by omega) (by omega) (by omega) (by omega), mulW (by omega) (by omega) (by omega) (by omega), mulW (by omega) (by omega) (by omega) (by omega), by decide, ?_⟩
    rw [cut_map]
    refine for_inv (fun r z N => ∃ (ms : List Int) (st : Int) (w : Option PV), r = ms.map .int ∧ N = M ∧ 0 ≤ st ∧ st < 1000000009 ∧ z = [some (.rol (ns.map .int)), some (.int i), some (.int st), w]) ?_ ?_ _ _ _ ⟨_, _, _, rfl, rfl, Int.emod_nonneg _ (by decide), Int.emod_lt_of_pos _ (by decide), rfl⟩
    · rintro z N ⟨ms, st, w, _, rfl, _, _, rfl⟩
      simp only [zsp, zSs, zS, zE, zEs, zT, zBoVs, zBoTs, zA, zIfs, zI, zO, zG, zGs, zsCons, zsNil, zsIf, zsRet, zsRetN, zsExpr, zsAsg, zsPar, zsFor, zsSet, zsSetL, zsPass, zsBreak, zsCont, zsFrz, zEnds, zstart, z1, z2, zVar, zGet, zCst, zChain_eq, onB_bl, tOf, zNotT, zBoT, zBoV, zIf, zNil, zCons, zTup, zPart, zNoPart, zSl, zSlL, zCB, zCBL, zBF, zLM, LM.ty, IC.pv, zAbs, zList, zIsi, zVal, zRng1, zRng2, zEnum, Zz.gNm, Zz.gNil, Zz.gCons, Zz.gTup, zCall, zMt, zAppend, zExtend, zInsert, zPop, zReverse, zRev, zDct0, zDctK, zDctT, zYes, zLc, zwipe, zCmp, zEq, zIs, isNonP, List.map_cons, List.map_nil, List.cons_append, List.nil_append, List.replicate_succ, List.replicate_zero, List.length_cons, List.length_nil, List.set_cons_zero, List.set_cons_succ, List.getElem?_cons_zero, List.getElem?_cons_succ, Option.join_some, Nat.reduceAdd, Nat.reduceSub, Nat.zero_add, isiB, Bool.not_eq_true', decide_eq_false_iff_not, decide_eq_true_eq,  tyP_non, isDct_non, rs_non, tyP_bl, isDct_bl, rs_bl, tyP_int, isDct_int, rs_int, tyP_str, isDct_str, rs_str, tyP_tup, isDct_tup, rs_tup, tyP_lst, isDct_lst, rs_lst, tyP_rol, isDct_rol, rs_rol, tyP_dct, isDct_dct, rs_dct, asL_lst, asL_rol, asS_lst, asS_rol, asS_tup, asW_lst, asT_tup, asL_mset, asS_mset, asW_mset, refL_mset, isDct_mset, tyP_mset, rs_mset, Option.some.injEq, exists_eq_left', true_and, and_true, Bool.not_true, Bool.not_false, Bool.false_eq_true, if_true, if_false, ite_true, ite_false, String.reduceBEq, Bool.or_false, Bool.or_true, Bool.false_or, Bool.true_or, Bool.and_false, Bool.and_true, Bool.true_and, Bool.false_and, reduceIte, PV.int.injEq, exists_const, PV.tup.injEq, PV.lst.injEq, PV.ref.injEq, PV.ty.injEq, zIn, List.all_cons, List.all_nil, List.any_cons, List.any_nil, atP_0, atP_1, atP_2, flat_ints, Zz.any_ints, Nat.zero_le, IC.v, Nat.reduceLeDiff, forall_const, mset_mset, not_true_eq_false, not_false_eq_true, cpow9, pow9, cpow18, pow18, cpow30, pow30, ex2, Bool.true_eq_false, Int.cast_ofNat_Int, Int.ofNat_eq_natCast, flatP_non, flatP_bl, flatP_int, flatP_str, flatP_tup, flatP_lst, flatP_dct, eqF_ss, eqF_ii, eqF_bb, zB_Add_i, zB_Sub_i, zB_Mult_i, zB_FloorDiv_i, zB_Mod_i, zB_Pow_i, zB_BitAnd_i, zB_BitOr_i, zB_Add_s, zB_Add_t, zB_Add_l, zB_Mul_l, zIx_tup, zIx_lst, zIx_rol, zIx_str, zIx_mset, zLen_tup, zLen_lst, zLen_rol, zLen_str, zLen_mset, zInt_i, zInt_b, zTuple_t, zTuple_l, zTuple_m, zMax_ii, zMin_ii, zNeg_i, zNotV_b, zAllAny_l, wL_mset, szl0, szl1, szl2, szl3, szl4, szl5, szl6, szl7, szl8, szl9, szl10, szl11, szl12, szl13, szl14, szl15, szl16, szl17, szl18, szl19, szl20, szl21, szl22, szl23, szl24, szl25, szl26, szl27, szl28, szl29, szl30, szl31, szl32, szl33, szl34, szl35, szl36, szl37, szl38, szl39, szl40, szl41, szl42, szl43, szl44, szl45, szl46, szl47, szl48, szl49, szl50, szl51, szl52, szl53, szl54, szl55, szl56, szl57, szl58, szl59, szl60, szl61, szl62, szl63, szl64, szl65, szl66, szl67, szl68, szl69, frzV_ref, zfrz, Option.map_some, Option.map_none, frzV_non, frzV_bl, frzV_int, frzV_str, frzV_tup, frzV_lst, frzV_rol, frzV_dct]
      exact ret_same (q _)
    · rintro y r z N K ⟨ms, st, w, hr, rfl, g0, g1, rfl⟩ hK
      cases ms with
      | nil => cases hr
      | cons m ms =>
        rw [List.map_cons] at hr
        cases hr
        simp only [zsp, zSs, zS, zE, zEs, zT, zBoVs, zBoTs, zA, zIfs, zI, zO, zG, zGs, zsCons, zsNil, zsIf, zsRet, zsRetN, zsExpr, zsAsg, zsPar, zsFor, zsSet, zsSetL, zsPass, zsBreak, zsCont, zsFrz, zEnds, zstart, z1, z2, zVar, zGet, zCst, zChain_eq, onB_bl, tOf, zNotT, zBoT, zBoV, zIf, zNil, zCons, zTup, zPart, zNoPart, zSl, zSlL, zCB, zCBL, zBF, zLM, LM.ty, IC.pv, zAbs, zList, zIsi, zVal, zRng1, zRng2, zEnum, Zz.gNm, Zz.gNil, Zz.gCons, Zz.gTup, zCall, zMt, zAppend, zExtend, zInsert, zPop, zReverse, zRev, zDct0, zDctK, zDctT, zYes, zLc, zwipe, zCmp, zEq, zIs, isNonP, List.map_cons, List.map_nil, List.cons_append, List.nil_append, List.replicate_succ, List.replicate_zero, List.length_cons, List.length_nil, List.set_cons_zero, List.set_cons_succ, List.getElem?_cons_zero, List.getElem?_cons_succ, Option.join_some, Nat.reduceAdd, Nat.reduceSub, Nat.zero_add, isiB, Bool.not_eq_true', decide_eq_false_iff_not, decide_eq_true_eq,  tyP_non, isDct_non, rs_non, tyP_bl, isDct_bl, rs_bl, tyP_int, isDct_int, rs_int, tyP_str, isDct_str, rs_str, tyP_tup, isDct_tup, rs_tup, tyP_lst, isDct_lst, rs_lst, tyP_rol, isDct_rol, rs_rol, tyP_dct, isDct_dct, rs_dct, asL_lst, asL_rol, asS_lst, asS_rol, asS_tup, asW_lst, asT_tup, asL_mset, asS_mset, asW_mset, refL_mset, isDct_mset, tyP_mset, rs_mset, Option.some.injEq, exists_eq_left', true_and, and_true, Bool.not_true, Bool.not_false, Bool.false_eq_true, if_true, if_false, ite_true, ite_false, String.reduceBEq, Bool.or_false, Bool.or_true, Bool.false_or, Bool.true_or, Bool.and_false, Bool.and_true, Bool.true_and, Bool.false_and, reduceIte, PV.int.injEq, exists_const, PV.tup.injEq, PV.lst.injEq, PV.ref.injEq, PV.ty.injEq, zIn, List.all_cons, List.all_nil, List.any_cons, List.any_nil, atP_0, atP_1, atP_2, flat_ints, Zz.any_ints, Nat.zero_le, IC.v, Nat.reduceLeDiff, forall_const, mset_mset, not_true_eq_false, not_false_eq_true, cpow9, pow9, cpow18, pow18, cpow30, pow30, ex2, Bool.true_eq_false, Int.cast_ofNat_Int, Int.ofNat_eq_natCast, flatP_non, flatP_bl, flatP_int, flatP_str, flatP_tup, flatP_lst, flatP_dct, eqF_ss, eqF_ii, eqF_bb, zB_Add_i, zB_Sub_i, zB_Mult_i, zB_FloorDiv_i, zB_Mod_i, zB_Pow_i, zB_BitAnd_i, zB_BitOr_i, zB_Add_s, zB_Add_t, zB_Add_l, zB_Mul_l, zIx_tup, zIx_lst, zIx_rol, zIx_str, zIx_mset, zLen_tup, zLen_lst, zLen_rol, zLen_str, zLen_mset, zInt_i, zInt_b, zTuple_t, zTuple_l, zTuple_m, zMax_ii, zMin_ii, zNeg_i, zNotV_b, zAllAny_l, wL_mset, szl0, szl1, szl2, szl3, szl4, szl5, szl6, szl7, szl8, szl9, szl10, szl11, szl12, szl13, szl14, szl15, szl16, szl17, szl18, szl19, szl20, szl21, szl22, szl23, szl24, szl25, szl26, szl27, szl28, szl29, szl30, szl31, szl32, szl33, szl34, szl35, szl36, szl37, szl38, szl39, szl40, szl41, szl42, szl43, szl44, szl45, szl46, szl47, szl48, szl49, szl50, szl51, szl52, szl53, szl54, szl55, szl56, szl57, szl58, szl59, szl60, szl61, szl62, szl63, szl64, szl65, szl66, szl67, szl68, szl69, frzV_ref, zfrz, Option.map_some, Option.map_none, frzV_non, frzV_bl, frzV_int, frzV_str, frzV_tup, frzV_lst, frzV_rol, frzV_dct]
        refine ⟨mulW (by omega) (by omega) (by omega) (by omega), by decide, hK _ _ ⟨ms, _, _, rfl, rfl, Int.emod_nonneg _ (by decide), Int.emod_lt_of_pos _ (by decide), rfl⟩⟩
theorem sp_L_draws {c : Int} {m : Nat} (hm : m ≤ 1000) (q : ∀ ns : List Int, ns.length = m → (∀ n ∈ ns, 0 ≤ n ∧ n < 1000000007) → Q (.lst (ns.map .int)) M) : ZCall T (k + 1) "_law_draws" [.int c, .int m] M Q X := by
  apply call_L_draws E rfl
  simp only [ir_L_draws, N_L_draws, zsp, zSs, zS, zE, zEs, zT, zBoVs, zBoTs, zA, zIfs, zI, zO, zG, zGs, zsCons, zsNil, zsIf, zsRet, zsRetN, zsExpr, zsAsg, zsPar, zsFor, zsSet, zsSetL, zsPass, zsBreak, zsCont, zsFrz, zEnds, zstart, z1, z2, zVar, zGet, zCst, zChain_eq, onB_bl, tOf, zNotT, zBoT, zBoV, zIf, zNil, zCons, zTup, zPart, zNoPart, zSl, zSlL, zCB, zCBL, zBF, zLM, LM.ty, IC.pv, zAbs, zList, zIsi, zVal, zRng1, zRng2, zEnum, Zz.gNm, Zz.gNil, Zz.gCons, Zz.gTup, zCall, zMt, zAppend, zExtend, zInsert, zPop, zReverse, zRev, zDct0, zDctK, zDctT, zYes, zLc, zwipe, zCmp, zEq, zIs, isNonP, List.map_cons, List.map_nil, List.cons_append, List.nil_append, List.replicate_succ, List.replicate_zero, List.length_cons, List.length_nil, List.set_cons_zero, List.set_cons_succ, List.getElem?_cons_zero, List.getElem?_cons_succ, Option.join_some, Nat.reduceAdd, Nat.reduceSub, Nat.zero_add, isiB, Bool.not_eq_true', decide_eq_false_iff_not, decide_eq_true_eq,  tyP_non, isDct_non, rs_non, tyP_bl, isDct_bl, rs_bl, tyP_int, isDct_int, rs_int, tyP_str, isDct_str, rs_str, tyP_tup, isDct_tup, rs_tup, tyP_lst, isDct_lst, rs_lst, tyP_rol, isDct_rol, rs_rol, tyP_dct, isDct_dct, rs_dct, asL_lst, asL_rol, asS_lst, asS_rol, asS_tup, asW_lst, asT_tup, asL_mset, asS_mset, asW_mset, refL_mset, isDct_mset, tyP_mset, rs_mset, Option.some.injEq, exists_eq_left', true_and, and_true, Bool.not_true, Bool.not_false, Bool.false_eq_true, if_true, if_false, ite_true, ite_false, String.reduceBEq, Bool.or_false, Bool.or_true, Bool.false_or, Bool.true_or, Bool.and_false, Bool.and_true, Bool.true_and, Bool.false_and, reduceIte, PV.int.injEq, exists_const, PV.tup.injEq, PV.lst.injEq, PV.ref.injEq, PV.ty.injEq, zIn, List.all_cons, List.all_nil, List.any_cons, List.any_nil, atP_0, atP_1, atP_2, flat_ints, Zz.any_ints, Nat.zero_le, IC.v, Nat.reduceLeDiff, forall_const, mset_mset, not_true_eq_false, not_false_eq_true, cpow9, pow9, cpow18, pow18, cpow30, pow30, ex2, Bool.true_eq_false, Int.cast_ofNat_Int, Int.ofNat_eq_natCast, flatP_non, flatP_bl, flatP_int, flatP_str, flatP_tup, flatP_lst, flatP_dct, eqF_ss, eqF_ii, eqF_bb, zB_Add_i, zB_Sub_i, zB_Mult_i, zB_FloorDiv_i, zB_Mod_i, zB_Pow_i, zB_BitAnd_i, zB_BitOr_i, zB_Add_s, zB_Add_t, zB_Add_l, zB_Mul_l, zIx_tup, zIx_lst, zIx_rol, zIx_str, zIx_mset, zLen_tup, zLen_lst, zLen_rol, zLen_str, zLen_mset, zInt_i, zInt_b, zTuple_t, zTuple_l, zTuple_m, zMax_ii, zMin_ii, zNeg_i, zNotV_b, zAllAny_l, wL_mset, szl0, szl1, szl2, szl3, szl4, szl5, szl6, szl7, szl8, szl9, szl10, szl11, szl12, szl13, szl14, szl15, szl16, szl17, szl18, szl19, szl20, szl21, szl22, szl23, szl24, szl25, szl26, szl27, szl28, szl29, szl30, szl31, szl32, szl33, szl34, szl35, szl36, szl37, szl38, szl39, szl40, szl41, szl42, szl43, szl44, szl45, szl46, szl47, szl48, szl49, szl50, szl51, szl52, szl53, szl54, szl55, szl56, szl57, szl58, szl59, szl60, szl61, szl62, szl63, szl64, szl65, szl66, szl67, szl68, szl69, frzV_ref, zfrz, Option.map_some, Option.map_none, frzV_non, frzV_bl, frzV_int, frzV_str, frzV_tup, frzV_lst, frzV_rol, frzV_dct]
  have hs : (m : Int) ≤ (sizeLine : Int) := Int.ofNat_le.mpr (Nat.le_trans hm (by decide))
  refine atP_all (by split <;> decide) (by split <;> (simp only [List.length_cons, List.length_nil]; omega)) fun y hy => ?_
  have hy' : ∃ left, y = .int left := by
    simp only [List.mem_cons, List.not_mem_nil, or_false] at hy
    rcases hy with rfl | rfl
    · exact ⟨_, rfl⟩
    · exact ⟨_, rfl⟩
  obtain ⟨left, rfl⟩ := hy'
  have hc0 := Int.emod_nonneg c (show (998244353 : Int) ≠ 0 by decide)
  have hc1 := Int.emod_lt_of_pos c (show (0 : Int) < 998244353 by decide)
  refine ⟨by decide, mulW (by omega) (by omega) (by omega) (by omega), by decide, fun p hp => ⟨by omega, hs, ?_⟩⟩
  refine for_inv (fun r z N => ∃ (ns : List Int) (left st : Int) (w : Option PV), (∀ x ∈ r, ∃ k : Nat, k < m ∧ x = .int (0 + (k : Int))) ∧ ns.length + r.length = m ∧ (∀ n ∈ ns, 0 ≤ n ∧ n < 1000000007) ∧ 0 ≤ st ∧ st < 1000000007 ∧ N = mset M p (.lst (ns.map .int)) ∧
    z = [some (.int c), some (.int m), some (.int left), some (.int st), some (.ref p), w]) ?_ ?_ _ _ _ ⟨[], left, _, none, ?_, ?_, by simp, Int.emod_nonneg _ (by decide), ?_, rfl, rfl⟩
  · rintro z N ⟨ns, left, st, w, _, hl, hn, _, _, rfl, rfl⟩
    simp only [zsp, zSs, zS, zE, zEs, zT, zBoVs, zBoTs, zA, zIfs, zI, zO, zG, zGs, zsCons, zsNil, zsIf, zsRet, zsRetN, zsExpr, zsAsg, zsPar, zsFor, zsSet, zsSetL, zsPass, zsBreak, zsCont, zsFrz, zEnds, zstart, z1, z2, zVar, zGet, zCst, zChain_eq, onB_bl, tOf, zNotT, zBoT, zBoV, zIf, zNil, zCons, zTup, zPart, zNoPart, zSl, zSlL, zCB, zCBL, zBF, zLM, LM.ty, IC.pv, zAbs, zList, zIsi, zVal, zRng1, zRng2, zEnum, Zz.gNm, Zz.gNil, Zz.gCons, Zz.gTup, zCall, zMt, zAppend, zExtend, zInsert, zPop, zReverse, zRev, zDct0, zDctK, zDctT, zYes, zLc, zwipe, zCmp, zEq, zIs, isNonP, List.map_cons, List.map_nil, List.cons_append, List.nil_append, List.replicate_succ, List.replicate_zero, List.length_cons, List.length_nil, List.set_cons_zero, List.set_cons_succ, List.getElem?_cons_zero, List.getElem?_cons_succ, Option.join_some, Nat.reduceAdd, Nat.reduceSub, Nat.zero_add, isiB, Bool.not_eq_true', decide_eq_false_iff_not, decide_eq_true_eq,  tyP_non, isDct_non, rs_non, tyP_bl, isDct_bl, rs_bl, tyP_int, isDct_int, rs_int, tyP_str, isDct_str, rs_str, tyP_tup, isDct_tup, rs_tup, tyP_lst, isDct_lst, rs_lst, tyP_rol, isDct_rol, rs_rol, tyP_dct, isDct_dct, rs_dct, asL_lst, asL_rol, asS_lst, asS_rol, asS_tup, asW_lst, asT_tup, asL_mset, asS_mset, asW_mset, refL_mset, isDct_mset, tyP_mset, rs_mset, Option.some.injEq, exists_eq_left', true_and, and_true, Bool.not_true, Bool.not_false, Bool.false_eq_true, if_true, if_false, ite_true, ite_false, String.reduceBEq, Bool.or_false, Bool.or_true, Bool.false_or, Bool.true_or, Bool.and_false, Bool.and_true, Bool.true_and, Bool.false_and, reduceIte, PV.int.injEq, exists_const, PV.tup.injEq, PV.lst.injEq, PV.ref.injEq, PV.ty.injEq, zIn, List.all_cons, List.all_nil, List.any_cons, List.any_nil, atP_0, atP_1, atP_2, flat_ints, Zz.any_ints, Nat.zero_le, IC.v, Nat.reduceLeDiff, forall_const, mset_mset, not_true_eq_false, not_false_eq_true, cpow9, pow9, cpow18, pow18, cpow30, pow30, ex2, Bool.true_eq_false, Int.cast_ofNat_Int, Int.ofNat_eq_natCast, flatP_non, flatP_bl, flatP_int, flatP_str, flatP_tup, flatP_lst, flatP_dct, eqF_ss, eqF_ii, eqF_bb, zB_Add_i, zB_Sub_i, zB_Mult_i, zB_FloorDiv_i, zB_Mod_i, zB_Pow_i, zB_BitAnd_i, zB_BitOr_i, zB_Add_s, zB_Add_t, zB_Add_l, zB_Mul_l, zIx_tup, zIx_lst, zIx_rol, zIx_str, zIx_mset, zLen_tup, zLen_lst, zLen_rol, zLen_str, zLen_mset, zInt_i, zInt_b, zTuple_t, zTuple_l, zTuple_m, zMax_ii, zMin_ii, zNeg_i, zNotV_b, zAllAny_l, wL_mset, szl0, szl1, szl2, szl3, szl4, szl5, szl6, szl7, szl8, szl9, szl10, szl11, szl12, szl13, szl14, szl15, szl16, szl17, szl18, szl19, szl20, szl21, szl22, szl23, szl24, szl25, szl26, szl27, szl28, szl29, szl30, szl31, szl32, szl33, szl34, szl35, szl36, szl37, szl38, szl39, szl40, szl41, szl42, szl43, szl44, szl45, szl46, szl47, szl48, szl49, szl50, szl51, szl52, szl53, szl54, szl55, szl56, szl57, szl58, szl59, szl60, szl61, szl62, szl63, szl64, szl65, szl66, szl67, szl68, szl69, frzV_ref, zfrz, Option.map_some, Option.map_none, frzV_non, frzV_bl, frzV_int, frzV_str, frzV_tup, frzV_lst, frzV_rol, frzV_dct, zfrz, frzV, Option.map_some, Option.map_none, List.map_cons]
    rw [mdel_mset hp]
    exact ret_same (q ns (by simpa using hl) hn)
  · rintro y r z N K ⟨ns, left, st, w, hr, hl, hn, g0, g1, rfl, rfl⟩ hK
    obtain ⟨j, hj, rfl⟩ := hr y (List.mem_cons_self ..)
    simp only [zsp, zSs, zS, zE, zEs, zT, zBoVs, zBoTs, zA, zIfs, zI, zO, zG, zGs, zsCons, zsNil, zsIf, zsRet, zsRetN, zsExpr, zsAsg, zsPar, zsFor, zsSet, zsSetL, zsPass, zsBreak, zsCont, zsFrz, zEnds, zstart, z1, z2, zVar, zGet, zCst, zChain_eq, onB_bl, tOf, zNotT, zBoT, zBoV, zIf, zNil, zCons, zTup, zPart, zNoPart, zSl, zSlL, zCB, zCBL, zBF, zLM, LM.ty, IC.pv, zAbs, zList, zIsi, zVal, zRng1, zRng2, zEnum, Zz.gNm, Zz.gNil, Zz.gCons, Zz.gTup, zCall, zMt, zAppend, zExtend, zInsert, zPop, zReverse, zRev, zDct0, zDctK, zDctT, zYes, zLc, zwipe, zCmp, zEq, zIs, isNonP, List.map_cons, List.map_nil, List.cons_append, List.nil_append, List.replicate_succ, List.replicate_zero, List.length_cons, List.length_nil, List.set_cons_zero, List.set_cons_succ, List.getElem?_cons_zero, List.getElem?_cons_succ, Option.join_some, Nat.reduceAdd, Nat.reduceSub, Nat.zero_add, isiB, Bool.not_eq_true', decide_eq_false_iff_not, decide_eq_true_eq,  tyP_non, isDct_non, rs_non, tyP_bl, isDct_bl, rs_bl, tyP_int, isDct_int, rs_int, tyP_str, isDct_str, rs_str, tyP_tup, isDct_tup, rs_tup, tyP_lst, isDct_lst, rs_lst, tyP_rol, isDct_rol, rs_rol, tyP_dct, isDct_dct, rs_dct, asL_lst, asL_rol, asS_lst, asS_rol, asS_tup, asW_lst, asT_tup, asL_mset, asS_mset, asW_mset, refL_mset, isDct_mset, tyP_mset, rs_mset, Option.some.injEq, exists_eq_left', true_and, and_true, Bool.not_true, Bool.not_false, Bool.false_eq_true, if_true, if_false, ite_true, ite_false, String.reduceBEq, Bool.or_false, Bool.or_true, Bool.false_or, Bool.true_or, Bool.and_false, Bool.and_true, Bool.true_and, Bool.false_and, reduceIte, PV.int.injEq, exists_const, PV.tup.injEq, PV.lst.injEq, PV.ref.injEq, PV.ty.injEq, zIn, List.all_cons, List.all_nil, List.any_cons, List.any_nil, atP_0, atP_1, atP_2, flat_ints, Zz.any_ints, Nat.zero_le, IC.v, Nat.reduceLeDiff, forall_const, mset_mset, not_true_eq_false, not_false_eq_true, cpow9, pow9, cpow18, pow18, cpow30, pow30, ex2, Bool.true_eq_false, Int.cast_ofNat_Int, Int.ofNat_eq_natCast, flatP_non, flatP_bl, flatP_int, flatP_str, flatP_tup, flatP_lst, flatP_dct, eqF_ss, eqF_ii, eqF_bb, zB_Add_i, zB_Sub_i, zB_Mult_i, zB_FloorDiv_i, zB_Mod_i, zB_Pow_i, zB_BitAnd_i, zB_BitOr_i, zB_Add_s, zB_Add_t, zB_Add_l, zB_Mul_l, zIx_tup, zIx_lst, zIx_rol, zIx_str, zIx_mset, zLen_tup, zLen_lst, zLen_rol, zLen_str, zLen_mset, zInt_i, zInt_b, zTuple_t, zTuple_l, zTuple_m, zMax_ii, zMin_ii, zNeg_i, zNotV_b, zAllAny_l, wL_mset, szl0, szl1, szl2, szl3, szl4, szl5, szl6, szl7, szl8, szl9, szl10, szl11, szl12, szl13, szl14, szl15, szl16, szl17, szl18, szl19, szl20, szl21, szl22, szl23, szl24, szl25, szl26, szl27, szl28, szl29, szl30, szl31, szl32, szl33, szl34, szl35, szl36, szl37, szl38, szl39, szl40, szl41, szl42, szl43, szl44, szl45, szl46, szl47, szl48, szl49, szl50, szl51, szl52, szl53, szl54, szl55, szl56, szl57, szl58, szl59, szl60, szl61, szl62, szl63, szl64, szl65, szl66, szl67, szl68, szl69, frzV_ref, zfrz, Option.map_some, Option.map_none, frzV_non, frzV_bl, frzV_int, frzV_str, frzV_tup, frzV_lst, frzV_rol, frzV_dct]
    have hq0 := Int.emod_nonneg st (show (32749 : Int) ≠ 0 by decide)
    have hq1 := Int.emod_lt_of_pos st (show (0 : Int) < 32749 by decide)
    rw [List.length_cons] at hl
    refine ⟨by decide, mulW (by omega) (by omega) (by omega) (by omega), mulW (by omega) (by omega) (by omega) (by omega), by decide, by decide, ?_⟩
    refine atP_all (by split <;> decide) (by split <;> (simp only [List.length_cons, List.length_nil]; omega)) fun y hy => ?_
    have hy' : ∃ n : Int, y = .int n ∧ 0 ≤ n ∧ n < 1000000007 := by
      simp only [List.mem_cons, List.not_mem_nil, or_false] at hy
      rcases hy with rfl | rfl
      · exact ⟨_, rfl, Int.emod_nonneg _ (by decide), Int.emod_lt_of_pos _ (by decide)⟩
      · exact ⟨_, rfl, Int.emod_nonneg _ (by decide), Int.lt_trans (Int.emod_lt_of_pos _ (by decide)) (by decide)⟩
    obtain ⟨n, rfl, e0, e1⟩ := hy'
    refine ⟨Nat.lt_of_le_of_lt (m := 1000) (by rw [List.length_map]; omega) (by decide), divW (by decide) (by decide), ?_⟩
    refine hK _ _ ⟨ns ++ [n], _, _, _, fun x hx => hr x (List.mem_cons_of_mem _ hx), by rw [List.length_append]; simp; omega, ?_, Int.emod_nonneg _ (by decide), Int.emod_lt_of_pos _ (by decide), by rw [List.map_append]; rfl, rfl⟩
    intro i hi
    rcases List.mem_append.mp hi with h | h
    · exact hn i h
    · simp only [List.mem_cons, List.not_mem_nil, or_false] at h
      subst h
      exact ⟨e0, e1⟩
  · intro x hx
    obtain ⟨j, hj, rfl⟩ := rngP_mem hx
    exact ⟨j, by simpa using hj, rfl⟩
  · rw [rngP_len]; simp
  · exact Int.lt_trans (Int.emod_lt_of_pos _ (by decide)) (by decide)
theorem str_one (c : Nat) : Str.length ⟨#[c]⟩ = 1 := rfl
theorem sp_L_word {a b : Int} (ha : 0 ≤ a ∧ a < 1000000007) (hb : 0 ≤ b ∧ b < 1000000007) (q : ∀ s : Str, s.length ≤ 8 → s.cps.all (· < 0x110000) = true → Q (.str s) M) : ZCall T (k + 1) "_law_word" [.int a, .int b] M Q X := by
  apply call_L_word E rfl
  simp only [ir_L_word, N_L_word, zsp, zSs, zS, zE, zEs, zT, zBoVs, zBoTs, zA, zIfs, zI, zO, zG, zGs, zsCons, zsNil, zsIf, zsRet, zsRetN, zsExpr, zsAsg, zsPar, zsFor, zsSet, zsSetL, zsPass, zsBreak, zsCont, zsFrz, zEnds, zstart, z1, z2, zVar, zGet, zCst, zChain_eq, onB_bl, tOf, zNotT, zBoT, zBoV, zIf, zNil, zCons, zTup, zPart, zNoPart, zSl, zSlL, zCB, zCBL, zBF, zLM, LM.ty, IC.pv, zAbs, zList, zIsi, zVal, zRng1, zRng2, zEnum, Zz.gNm, Zz.gNil, Zz.gCons, Zz.gTup, zCall, zMt, zAppend, zExtend, zInsert, zPop, zReverse, zRev, zDct0, zDctK, zDctT, zYes, zLc, zwipe, zCmp, zEq, zIs, isNonP, List.map_cons, List.map_nil, List.cons_append, List.nil_append, List.replicate_succ, List.replicate_zero, List.length_cons, List.length_nil, List.set_cons_zero, List.set_cons_succ, List.getElem?_cons_zero, List.getElem?_cons_succ, Option.join_some, Nat.reduceAdd, Nat.reduceSub, Nat.zero_add, isiB, Bool.not_eq_true', decide_eq_false_iff_not, decide_eq_true_eq,  tyP_non, isDct_non, rs_non, tyP_bl, isDct_bl, rs_bl, tyP_int, isDct_int, rs_int, tyP_str, isDct_str, rs_str, tyP_tup, isDct_tup, rs_tup, tyP_lst, isDct_lst, rs_lst, tyP_rol, isDct_rol, rs_rol, tyP_dct, isDct_dct, rs_dct, asL_lst, asL_rol, asS_lst, asS_rol, asS_tup, asW_lst, asT_tup, asL_mset, asS_mset, asW_mset, refL_mset, isDct_mset, tyP_mset, rs_mset, Option.some.injEq, exists_eq_left', true_and, and_true, Bool.not_true, Bool.not_false, Bool.false_eq_true, if_true, if_false, ite_true, ite_false, String.reduceBEq, Bool.or_false, Bool.or_true, Bool.false_or, Bool.true_or, Bool.and_false, Bool.and_true, Bool.true_and, Bool.false_and, reduceIte, PV.int.injEq, exists_const, PV.tup.injEq, PV.lst.injEq, PV.ref.injEq, PV.ty.injEq, zIn, List.all_cons, List.all_nil, List.any_cons, List.any_nil, atP_0, atP_1, atP_2, flat_ints, Zz.any_ints, Nat.zero_le, IC.v, Nat.reduceLeDiff, forall_const, mset_mset, not_true_eq_false, not_false_eq_true, cpow9, pow9, cpow18, pow18, cpow30, pow30, ex2, Bool.true_eq_false, Int.cast_ofNat_Int, Int.ofNat_eq_natCast, flatP_non, flatP_bl, flatP_int, flatP_str, flatP_tup, flatP_lst, flatP_dct, eqF_ss, eqF_ii, eqF_bb, zB_Add_i, zB_Sub_i, zB_Mult_i, zB_FloorDiv_i, zB_Mod_i, zB_Pow_i, zB_BitAnd_i, zB_BitOr_i, zB_Add_s, zB_Add_t, zB_Add_l, zB_Mul_l, zIx_tup, zIx_lst, zIx_rol, zIx_str, zIx_mset, zLen_tup, zLen_lst, zLen_rol, zLen_str, zLen_mset, zInt_i, zInt_b, zTuple_t, zTuple_l, zTuple_m, zMax_ii, zMin_ii, zNeg_i, zNotV_b, zAllAny_l, wL_mset, szl0, szl1, szl2, szl3, szl4, szl5, szl6, szl7, szl8, szl9, szl10, szl11, szl12, szl13, szl14, szl15, szl16, szl17, szl18, szl19, szl20, szl21, szl22, szl23, szl24, szl25, szl26, szl27, szl28, szl29, szl30, szl31, szl32, szl33, szl34, szl35, szl36, szl37, szl38, szl39, szl40, szl41, szl42, szl43, szl44, szl45, szl46, szl47, szl48, szl49, szl50, szl51, szl52, szl53, szl54, szl55, szl56, szl57, szl58, szl59, szl60, szl61, szl62, szl63, szl64, szl65, szl66, szl67, szl68, szl69, frzV_ref, zfrz, Option.map_some, Option.map_none, frzV_non, frzV_bl, frzV_int, frzV_str, frzV_tup, frzV_lst, frzV_rol, frzV_dct]
  have hq0 := Int.emod_nonneg b (show (8 : Int) ≠ 0 by decide)
  have hq1 := Int.emod_lt_of_pos b (show (0 : Int) < 8 by decide)
  have hs : (8 : Int) ≤ (sizeLine : Int) := by decide
  refine ⟨mulW (by omega) (by omega) (by omega) (by omega), by decide, by omega, by omega, ?_⟩
  refine for_inv (fun r z N => ∃ (s : Str) (n : Int) (w : Option PV), s.length + r.length ≤ 8 ∧ s.cps.all (· < 0x110000) = true ∧ N = M ∧ z = [some (.int a), some (.int b), some (.int n), some (.str s), w]) ?_ ?_ _ _ _ ⟨_, _, none, ?_, by decide +kernel, rfl, rfl⟩
  · rintro z N ⟨s, n, w, hl, ho, rfl, rfl⟩
    simp only [zsp, zSs, zS, zE, zEs, zT, zBoVs, zBoTs, zA, zIfs, zI, zO, zG, zGs, zsCons, zsNil, zsIf, zsRet, zsRetN, zsExpr, zsAsg, zsPar, zsFor, zsSet, zsSetL, zsPass, zsBreak, zsCont, zsFrz, zEnds, zstart, z1, z2, zVar, zGet, zCst, zChain_eq, onB_bl, tOf, zNotT, zBoT, zBoV, zIf, zNil, zCons, zTup, zPart, zNoPart, zSl, zSlL, zCB, zCBL, zBF, zLM, LM.ty, IC.pv, zAbs, zList, zIsi, zVal, zRng1, zRng2, zEnum, Zz.gNm, Zz.gNil, Zz.gCons, Zz.gTup, zCall, zMt, zAppend, zExtend, zInsert, zPop, zReverse, zRev, zDct0, zDctK, zDctT, zYes, zLc, zwipe, zCmp, zEq, zIs, isNonP, List.map_cons, List.map_nil, List.cons_append, List.nil_append, List.replicate_succ, List.replicate_zero, List.length_cons, List.length_nil, List.set_cons_zero, List.set_cons_succ, List.getElem?_cons_zero, List.getElem?_cons_succ, Option.join_some, Nat.reduceAdd, Nat.reduceSub, Nat.zero_add, isiB, Bool.not_eq_true', decide_eq_false_iff_not, decide_eq_true_eq,  tyP_non, isDct_non, rs_non, tyP_bl, isDct_bl, rs_bl, tyP_int, isDct_int, rs_int, tyP_str, isDct_str, rs_str, tyP_tup, isDct_tup, rs_tup, tyP_lst, isDct_lst, rs_lst, tyP_rol, isDct_rol, rs_rol, tyP_dct, isDct_dct, rs_dct, asL_lst, asL_rol, asS_lst, asS_rol, asS_tup, asW_lst, asT_tup, asL_mset, asS_mset, asW_mset, refL_mset, isDct_mset, tyP_mset, rs_mset, Option.some.injEq, exists_eq_left', true_and, and_true, Bool.not_true, Bool.not_false, Bool.false_eq_true, if_true, if_false, ite_true, ite_false, String.reduceBEq, Bool.or_false, Bool.or_true, Bool.false_or, Bool.true_or, Bool.and_false, Bool.and_true, Bool.true_and, Bool.false_and, reduceIte, PV.int.injEq, exists_const, PV.tup.injEq, PV.lst.injEq, PV.ref.injEq, PV.ty.injEq, zIn, List.all_cons, List.all_nil, List.any_cons, List.any_nil, atP_0, atP_1, atP_2, flat_ints, Zz.any_ints, Nat.zero_le, IC.v, Nat.reduceLeDiff, forall_const, mset_mset, not_true_eq_false, not_false_eq_true, cpow9, pow9, cpow18, pow18, cpow30, pow30, ex2, Bool.true_eq_false, Int.cast_ofNat_Int, Int.ofNat_eq_natCast, flatP_non, flatP_bl, flatP_int, flatP_str, flatP_tup, flatP_lst, flatP_dct, eqF_ss, eqF_ii, eqF_bb, zB_Add_i, zB_Sub_i, zB_Mult_i, zB_FloorDiv_i, zB_Mod_i, zB_Pow_i, zB_BitAnd_i, zB_BitOr_i, zB_Add_s, zB_Add_t, zB_Add_l, zB_Mul_l, zIx_tup, zIx_lst, zIx_rol, zIx_str, zIx_mset, zLen_tup, zLen_lst, zLen_rol, zLen_str, zLen_mset, zInt_i, zInt_b, zTuple_t, zTuple_l, zTuple_m, zMax_ii, zMin_ii, zNeg_i, zNotV_b, zAllAny_l, wL_mset, szl0, szl1, szl2, szl3, szl4, szl5, szl6, szl7, szl8, szl9, szl10, szl11, szl12, szl13, szl14, szl15, szl16, szl17, szl18, szl19, szl20, szl21, szl22, szl23, szl24, szl25, szl26, szl27, szl28, szl29, szl30, szl31, szl32, szl33, szl34, szl35, szl36, szl37, szl38, szl39, szl40, szl41, szl42, szl43, szl44, szl45, szl46, szl47, szl48, szl49, szl50, szl51, szl52, szl53, szl54, szl55, szl56, szl57, szl58, szl59, szl60, szl61, szl62, szl63, szl64, szl65, szl66, szl67, szl68, szl69, frzV_ref, zfrz, Option.map_some, Option.map_none, frzV_non, frzV_bl, frzV_int, frzV_str, frzV_tup, frzV_lst, frzV_rol, frzV_dct]
    exact ret_same (q s (by simpa using hl) ho)
  · rintro y r z N K ⟨s, n, w, hl, ho, rfl, rfl⟩ hK
    rw [List.length_cons] at hl
    simp only [zsp, zSs, zS, zE, zEs, zT, zBoVs, zBoTs, zA, zIfs, zI, zO, zG, zGs, zsCons, zsNil, zsIf, zsRet, zsRetN, zsExpr, zsAsg, zsPar, zsFor, zsSet, zsSetL, zsPass, zsBreak, zsCont, zsFrz, zEnds, zstart, z1, z2, zVar, zGet, zCst, zChain_eq, onB_bl, tOf, zNotT, zBoT, zBoV, zIf, zNil, zCons, zTup, zPart, zNoPart, zSl, zSlL, zCB, zCBL, zBF, zLM, LM.ty, IC.pv, zAbs, zList, zIsi, zVal, zRng1, zRng2, zEnum, Zz.gNm, Zz.gNil, Zz.gCons, Zz.gTup, zCall, zMt, zAppend, zExtend, zInsert, zPop, zReverse, zRev, zDct0, zDctK, zDctT, zYes, zLc, zwipe, zCmp, zEq, zIs, isNonP, List.map_cons, List.map_nil, List.cons_append, List.nil_append, List.replicate_succ, List.replicate_zero, List.length_cons, List.length_nil, List.set_cons_zero, List.set_cons_succ, List.getElem?_cons_zero, List.getElem?_cons_succ, Option.join_some, Nat.reduceAdd, Nat.reduceSub, Nat.zero_add, isiB, Bool.not_eq_true', decide_eq_false_iff_not, decide_eq_true_eq,  tyP_non, isDct_non, rs_non, tyP_bl, isDct_bl, rs_bl, tyP_int, isDct_int, rs_int, tyP_str, isDct_str, rs_str, tyP_tup, isDct_tup, rs_tup, tyP_lst, isDct_lst, rs_lst, tyP_rol, isDct_rol, rs_rol, tyP_dct, isDct_dct, rs_dct, asL_lst, asL_rol, asS_lst, asS_rol, asS_tup, asW_lst, asT_tup, asL_mset, asS_mset, asW_mset, refL_mset, isDct_mset, tyP_mset, rs_mset, Option.some.injEq, exists_eq_left', true_and, and_true, Bool.not_true, Bool.not_false, Bool.false_eq_true, if_true, if_false, ite_true, ite_false, String.reduceBEq, Bool.or_false, Bool.or_true, Bool.false_or, Bool.true_or, Bool.and_false, Bool.and_true, Bool.true_and, Bool.false_and, reduceIte, PV.int.injEq, exists_const, PV.tup.injEq, PV.lst.injEq, PV.ref.injEq, PV.ty.injEq, zIn, List.all_cons, List.all_nil, List.any_cons, List.any_nil, atP_0, atP_1, atP_2, flat_ints, Zz.any_ints, Nat.zero_le, IC.v, Nat.reduceLeDiff, forall_const, mset_mset, not_true_eq_false, not_false_eq_true, cpow9, pow9, cpow18, pow18, cpow30, pow30, ex2, Bool.true_eq_false, Int.cast_ofNat_Int, Int.ofNat_eq_natCast, flatP_non, flatP_bl, flatP_int, flatP_str, flatP_tup, flatP_lst, flatP_dct, eqF_ss, eqF_ii, eqF_bb, zB_Add_i, zB_Sub_i, zB_Mult_i, zB_FloorDiv_i, zB_Mod_i, zB_Pow_i, zB_BitAnd_i, zB_BitOr_i, zB_Add_s, zB_Add_t, zB_Add_l, zB_Mul_l, zIx_tup, zIx_lst, zIx_rol, zIx_str, zIx_mset, zLen_tup, zLen_lst, zLen_rol, zLen_str, zLen_mset, zInt_i, zInt_b, zTuple_t, zTuple_l, zTuple_m, zMax_ii, zMin_ii, zNeg_i, zNotV_b, zAllAny_l, wL_mset, szl0, szl1, szl2, szl3, szl4, szl5, szl6, szl7, szl8, szl9, szl10, szl11, szl12, szl13, szl14, szl15, szl16, szl17, szl18, szl19, szl20, szl21, szl22, szl23, szl24, szl25, szl26, szl27, szl28, szl29, szl30, szl31, szl32, szl33, szl34, szl35, szl36, szl37, szl38, szl39, szl40, szl41, szl42, szl43, szl44, szl45, szl46, szl47, szl48, szl49, szl50, szl51, szl52, szl53, szl54, szl55, szl56, szl57, szl58, szl59, szl60, szl61, szl62, szl63, szl64, szl65, szl66, szl67, szl68, szl69, frzV_ref, zfrz, Option.map_some, Option.map_none, frzV_non, frzV_bl, frzV_int, frzV_str, frzV_tup, frzV_lst, frzV_rol, frzV_dct]
    refine ⟨by decide, atP_mod (by decide) (by decide) fun c hc => ⟨Nat.le_trans (m := 8) ?_ (by decide), divW (by decide) (by decide), hK _ _ ⟨_, _, _, ?_, ?_, rfl, rfl⟩⟩⟩
    · have : Str.length ⟨#[c]⟩ = 1 := rfl
      omega
    · rw [str_app_len]
      have : Str.length ⟨#[c]⟩ = 1 := rfl
      omega
    · have hc' : c < 0x110000 := (by decide : ∀ c ∈ (Str.ofString "abcdefghijklmnopqrstuvwxyz").cps.toList, c < 0x110000) c hc
      show (s.cps ++ #[c]).all (· < 0x110000) = true
      rw [Array.all_append, ho]
      simpa using hc'
  · rw [rngP_len]
    have : Str.length (Str.ofString "") = 0 := by decide
    omega
theorem sp_L_odd {a : Int} (q : ∀ y, pl y = true → Q y M) : ZCall T (k + 1) "_law_odd" [.int a] M Q X := by
  apply call_L_odd E rfl
  simp only [ir_L_odd, N_L_odd, zsp, zSs, zS, zE, zEs, zT, zBoVs, zBoTs, zA, zIfs, zI, zO, zG, zGs, zsCons, zsNil, zsIf, zsRet, zsRetN, zsExpr, zsAsg, zsPar, zsFor, zsSet, zsSetL, zsPass, zsBreak, zsCont, zsFrz, zEnds, zstart, z1, z2, zVar, zGet, zCst, zChain_eq, onB_bl, tOf, zNotT, zBoT, zBoV, zIf, zNil, zCons, zTup, zPart, zNoPart, zSl, zSlL, zCB, zCBL, zBF, zLM, LM.ty, IC.pv, zAbs, zList, zIsi, zVal, zRng1, zRng2, zEnum, Zz.gNm, Zz.gNil, Zz.gCons, Zz.gTup, zCall, zMt, zAppend, zExtend, zInsert, zPop, zReverse, zRev, zDct0, zDctK, zDctT, zYes, zLc, zwipe, zCmp, zEq, zIs, isNonP, List.map_cons, List.map_nil, List.cons_append, List.nil_append, List.replicate_succ, List.replicate_zero, List.length_cons, List.length_nil, List.set_cons_zero, List.set_cons_succ, List.getElem?_cons_zero, List.getElem?_cons_succ, Option.join_some, Nat.reduceAdd, Nat.reduceSub, Nat.zero_add, isiB, Bool.not_eq_true', decide_eq_false_iff_not, decide_eq_true_eq,  tyP_non, isDct_non, rs_non, tyP_bl, isDct_bl, rs_bl, tyP_int, isDct_int, rs_int, tyP_str, isDct_str, rs_str, tyP_tup, isDct_tup, rs_tup, tyP_lst, isDct_lst, rs_lst, tyP_rol, isDct_rol, rs_rol, tyP_dct, isDct_dct, rs_dct, asL_lst, asL_rol, asS_lst, asS_rol, asS_tup, asW_lst, asT_tup, asL_mset, asS_mset, asW_mset, refL_mset, isDct_mset, tyP_mset, rs_mset, Option.some.injEq, exists_eq_left', true_and, and_true, Bool.not_true, Bool.not_false, Bool.false_eq_true, if_true, if_false, ite_true, ite_false, String.reduceBEq, Bool.or_false, Bool.or_true, Bool.false_or, Bool.true_or, Bool.and_false, Bool.and_true, Bool.true_and, Bool.false_and, reduceIte, PV.int.injEq, exists_const, PV.tup.injEq, PV.lst.injEq, PV.ref.injEq, PV.ty.injEq, zIn, List.all_cons, List.all_nil, List.any_cons, List.any_nil, atP_0, atP_1, atP_2, flat_ints, Zz.any_ints, Nat.zero_le, IC.v, Nat.reduceLeDiff, forall_const, mset_mset, not_true_eq_false, not_false_eq_true, cpow9, pow9, cpow18, pow18, cpow30, pow30, ex2, Bool.true_eq_false, Int.cast_ofNat_Int, Int.ofNat_eq_natCast, flatP_non, flatP_bl, flatP_int, flatP_str, flatP_tup, flatP_lst, flatP_dct, eqF_ss, eqF_ii, eqF_bb, zB_Add_i, zB_Sub_i, zB_Mult_i, zB_FloorDiv_i, zB_Mod_i, zB_Pow_i, zB_BitAnd_i, zB_BitOr_i, zB_Add_s, zB_Add_t, zB_Add_l, zB_Mul_l, zIx_tup, zIx_lst, zIx_rol, zIx_str, zIx_mset, zLen_tup, zLen_lst, zLen_rol, zLen_str, zLen_mset, zInt_i, zInt_b, zTuple_t, zTuple_l, zTuple_m, zMax_ii, zMin_ii, zNeg_i, zNotV_b, zAllAny_l, wL_mset, szl0, szl1, szl2, szl3, szl4, szl5, szl6, szl7, szl8, szl9, szl10, szl11, szl12, szl13, szl14, szl15, szl16, szl17, szl18, szl19, szl20, szl21, szl22, szl23, szl24, szl25, szl26, szl27, szl28, szl29, szl30, szl31, szl32, szl33, szl34, szl35, szl36, szl37, szl38, szl39, szl40, szl41, szl42, szl43, szl44, szl45, szl46, szl47, szl48, szl49, szl50, szl51, szl52, szl53, szl54, szl55, szl56, szl57, szl58, szl59, szl60, szl61, szl62, szl63, szl64, szl65, szl66, szl67, szl68, szl69, frzV_ref, zfrz, Option.map_some, Option.map_none, frzV_non, frzV_bl, frzV_int, frzV_str, frzV_tup, frzV_lst, frzV_rol, frzV_dct]
  refine ⟨by decide, atP_mod (by decide) (by decide) fun y hy => ret_same (q y ?_)⟩
  simp only [List.mem_cons, List.not_mem_nil, or_false] at hy
  rcases hy with rfl | rfl | rfl | rfl | rfl | rfl | rfl | rfl | rfl | rfl | rfl | rfl | rfl | rfl | rfl | rfl | rfl | rfl | rfl | rfl | rfl | rfl | rfl | rfl | rfl | rfl <;> rfl
theorem sp_L_sign {a : Int} (q : ∀ s : Str, s.length = 1 → Q (.str s) M) : ZCall T (k + 1) "_law_sign" [.int a] M Q X := by
  apply call_L_sign E rfl
  simp only [ir_L_sign, N_L_sign, zsp, zSs, zS, zE, zEs, zT, zBoVs, zBoTs, zA, zIfs, zI, zO, zG, zGs, zsCons, zsNil, zsIf, zsRet, zsRetN, zsExpr, zsAsg, zsPar, zsFor, zsSet, zsSetL, zsPass, zsBreak, zsCont, zsFrz, zEnds, zstart, z1, z2, zVar, zGet, zCst, zChain_eq, onB_bl, tOf, zNotT, zBoT, zBoV, zIf, zNil, zCons, zTup, zPart, zNoPart, zSl, zSlL, zCB, zCBL, zBF, zLM, LM.ty, IC.pv, zAbs, zList, zIsi, zVal, zRng1, zRng2, zEnum, Zz.gNm, Zz.gNil, Zz.gCons, Zz.gTup, zCall, zMt, zAppend, zExtend, zInsert, zPop, zReverse, zRev, zDct0, zDctK, zDctT, zYes, zLc, zwipe, zCmp, zEq, zIs, isNonP, List.map_cons, List.map_nil, List.cons_append, List.nil_append, List.replicate_succ, List.replicate_zero, List.length_cons, List.length_nil, List.set_cons_zero, List.set_cons_succ, List.getElem?_cons_zero, List.getElem?_cons_succ, Option.join_some, Nat.reduceAdd, Nat.reduceSub, Nat.zero_add, isiB, Bool.not_eq_true', decide_eq_false_iff_not, decide_eq_true_eq,  tyP_non, isDct_non, rs_non, tyP_bl, isDct_bl, rs_bl, tyP_int, isDct_int, rs_int, tyP_str, isDct_str, rs_str, tyP_tup, isDct_tup, rs_tup, tyP_lst, isDct_lst, rs_lst, tyP_rol, isDct_rol, rs_rol, tyP_dct, isDct_dct, rs_dct, asL_lst, asL_rol, asS_lst, asS_rol, asS_tup, asW_lst, asT_tup, asL_mset, asS_mset, asW_mset, refL_mset, isDct_mset, tyP_mset, rs_mset, Option.some.injEq, exists_eq_left', true_and, and_true, Bool.not_true, Bool.not_false, Bool.false_eq_true, if_true, if_false, ite_true, ite_false, String.reduceBEq, Bool.or_false, Bool.or_true, Bool.false_or, Bool.true_or, Bool.and_false, Bool.and_true, Bool.true_and, Bool.false_and, reduceIte, PV.int.injEq, exists_const, PV.tup.injEq, PV.lst.injEq, PV.ref.injEq, PV.ty.injEq, zIn, List.all_cons, List.all_nil, List.any_cons, List.any_nil, atP_0, atP_1, atP_2, flat_ints, Zz.any_ints, Nat.zero_le, IC.v, Nat.reduceLeDiff, forall_const, mset_mset, not_true_eq_false, not_false_eq_true, cpow9, pow9, cpow18, pow18, cpow30, pow30, ex2, Bool.true_eq_false, Int.cast_ofNat_Int, Int.ofNat_eq_natCast, flatP_non, flatP_bl, flatP_int, flatP_str, flatP_tup, flatP_lst, flatP_dct, eqF_ss, eqF_ii, eqF_bb, zB_Add_i, zB_Sub_i, zB_Mult_i, zB_FloorDiv_i, zB_Mod_i, zB_Pow_i, zB_BitAnd_i, zB_BitOr_i, zB_Add_s, zB_Add_t, zB_Add_l, zB_Mul_l, zIx_tup, zIx_lst, zIx_rol, zIx_str, zIx_mset, zLen_tup, zLen_lst, zLen_rol, zLen_str, zLen_mset, zInt_i, zInt_b, zTuple_t, zTuple_l, zTuple_m, zMax_ii, zMin_ii, zNeg_i, zNotV_b, zAllAny_l, wL_mset, szl0, szl1, szl2, szl3, szl4, szl5, szl6, szl7, szl8, szl9, szl10, szl11, szl12, szl13, szl14, szl15, szl16, szl17, szl18, szl19, szl20, szl21, szl22, szl23, szl24, szl25, szl26, szl27, szl28, szl29, szl30, szl31, szl32, szl33, szl34, szl35, szl36, szl37, szl38, szl39, szl40, szl41, szl42, szl43, szl44, szl45, szl46, szl47, szl48, szl49, szl50, szl51, szl52, szl53, szl54, szl55, szl56, szl57, szl58, szl59, szl60, szl61, szl62, szl63, szl64, szl65, szl66, szl67, szl68, szl69, frzV_ref, zfrz, Option.map_some, Option.map_none, frzV_non, frzV_bl, frzV_int, frzV_str, frzV_tup, frzV_lst, frzV_rol, frzV_dct]
  refine ⟨by decide, atP_mod (by decide) (by decide) fun y hy => ret_same (q _ rfl)⟩
end
end Lk01
end
section
namespace Lk01
open PySem PySem.Spec PyProof.Rows L2 Zz
def atom : PV → Bool
  | .int _ => true
  | .str s => s.cps.all (· < 0x110000)
  | _ => false
theorem atom_pl {v : PV} (h : atom v = true) : pl v = true := by
  cases v <;> first | rfl | (simp [atom] at h; done)
theorem atom_gd {v : PV} {n : Nat} (h : atom v = true) : gd v n = true := by
  cases v with
  | int i => cases n <;> rfl
  | str s => cases n <;> exact h
  | _ => simp [atom] at h
theorem pls_all : ∀ {xs : List PV}, (∀ x ∈ xs, pl x = true) → pls xs = true
  | [], _ => rfl
  | x :: xs, h => by
    unfold pls
    rw [h x (List.mem_cons_self ..), pls_all fun y hy => h y (List.mem_cons_of_mem _ hy)]; rfl
abbrev Bd (a : Int) : Prop := 0 ≤ a ∧ a < 1000000007
def isPr (y : PV) : Prop := ∃ (c : Int) (w : Str), y = .tup [.int c, .str w] ∧ w.cps.all (· < 0x110000) = true
theorem isPr_pl {y : PV} (h : isPr y) : pl y = true := by
  obtain ⟨c, w, rfl, _⟩ := h
  rfl
theorem isPr_gd {y : PV} (h : isPr y) : gd y 1 = true := by
  obtain ⟨c, w, rfl, h⟩ := h
  simp only [gd, gds, Bool.and_true, Bool.true_and]
  exact h
theorem enumP_len {xs : List PV} : (enumP xs).length = xs.length := by simp [enumP]
theorem enumP_ints {cs : List Int} {x : PV} (h : x ∈ enumP (cs.map .int)) : ∃ (j : Nat), j < cs.length ∧ ∃ c : Int, x = .tup [.int (j : Int), .int c] := by
  obtain ⟨i, hi, e⟩ := List.mem_iff_getElem.mp h
  rw [enumP_len, List.length_map] at hi
  refine ⟨i, hi, cs[i], ?_⟩
  rw [← e]
  simp [enumP]
theorem cut_len {α : Type} {xs : List α} {n : Int} (h : 0 ≤ n) : ((cut xs none (some n)).length : Int) ≤ n := by
  unfold cut
  rw [List.length_take]
  have : HT.sIx xs.length xs.length (some n) ≤ n.toNat := by
    show (if n < 0 then (n + (xs.length : Int)).toNat else min n.toNat xs.length) ≤ n.toNat
    rw [if_neg (by omega)]
    exact Nat.min_le_left _ _
  omega
theorem bd_div {a k : Int} (h : Bd a) (hk : 0 < k) : Bd (a / k) := ⟨Int.ediv_nonneg h.1 (by omega), Int.lt_of_le_of_lt (Int.ediv_le_self _ h.1) h.2⟩
section
variable {T : Tx} (E : EnvT T) {k : Nat} {x : PV} {M : Mem} {Q : ZK} {X : ZX}
include E
theorem sp_L_key {a b : Int} (ha : Bd a) (hb : Bd b) (q : ∀ v, atom v = true → Q v M) : ZCall T (k + 2) "_law_key" [.int a, .int b] M Q X := by
  apply call_L_key E rfl
  simp only [ir_L_key, N_L_key, zsp, zSs, zS, zE, zEs, zT, zBoVs, zBoTs, zA, zIfs, zI, zO, zG, zGs, zsCons, zsNil, zsIf, zsRet, zsRetN, zsExpr, zsAsg, zsPar, zsFor, zsSet, zsSetL, zsPass, zsBreak, zsCont, zsFrz, zEnds, zstart, z1, z2, zVar, zGet, zCst, zChain_eq, onB_bl, tOf, zNotT, zBoT, zBoV, zIf, zNil, zCons, zTup, zPart, zNoPart, zSl, zSlL, zCB, zCBL, zBF, zLM, LM.ty, IC.pv, zAbs, zList, zIsi, zVal, zRng1, zRng2, zEnum, Zz.gNm, Zz.gNil, Zz.gCons, Zz.gTup, zCall, zMt, zAppend, zExtend, zInsert, zPop, zReverse, zRev, zDct0, zDctK, zDctT, zYes, zLc, zwipe, zCmp, zEq, zIs, isNonP, List.map_cons, List.map_nil, List.cons_append, List.nil_append, List.replicate_succ, List.replicate_zero, List.length_cons, List.length_nil, List.set_cons_zero, List.set_cons_succ, List.getElem?_cons_zero, List.getElem?_cons_succ, Option.join_some, Nat.reduceAdd, Nat.reduceSub, Nat.zero_add, isiB, Bool.not_eq_true', decide_eq_false_iff_not, decide_eq_true_eq,  tyP_non, isDct_non, rs_non, tyP_bl, isDct_bl, rs_bl, tyP_int, isDct_int, rs_int, tyP_str, isDct_str, rs_str, tyP_tup, isDct_tup, rs_tup, tyP_lst, isDct_lst, rs_lst, tyP_rol, isDct_rol, rs_rol, tyP_dct, isDct_dct, rs_dct, asL_lst, asL_rol, asS_lst, asS_rol, asS_tup, asW_lst, asT_tup, asL_mset, asS_mset, asW_mset, refL_mset, isDct_mset, tyP_mset, rs_mset, Option.some.injEq, exists_eq_left', true_and, and_true, Bool.not_true, Bool.not_false, Bool.false_eq_true, if_true, if_false, ite_true, ite_false, String.reduceBEq, Bool.or_false, Bool.or_true, Bool.false_or, Bool.true_or, Bool.and_false, Bool.and_true, Bool.true_and, Bool.false_and, reduceIte, PV.int.injEq, exists_const, PV.tup.injEq, PV.lst.injEq, PV.ref.injEq, PV.ty.injEq, zIn, List.all_cons, List.all_nil, List.any_cons, List.any_nil, atP_0, atP_1, atP_2, flat_ints, Zz.any_ints, Nat.zero_le, IC.v, Nat.reduceLeDiff, forall_const, mset_mset, not_true_eq_false, not_false_eq_true, cpow9, pow9, cpow18, pow18, cpow30, pow30, ex2, Bool.true_eq_false, Int.cast_ofNat_Int, Int.ofNat_eq_natCast, flatP_non, flatP_bl, flatP_int, flatP_str, flatP_tup, flatP_lst, flatP_dct, eqF_ss, eqF_ii, eqF_bb, zB_Add_i, zB_Sub_i, zB_Mult_i, zB_FloorDiv_i, zB_Mod_i, zB_Pow_i, zB_BitAnd_i, zB_BitOr_i, zB_Add_s, zB_Add_t, zB_Add_l, zB_Mul_l, zIx_tup, zIx_lst, zIx_rol, zIx_str, zIx_mset, zLen_tup, zLen_lst, zLen_rol, zLen_str, zLen_mset, zInt_i, zInt_b, zTuple_t, zTuple_l, zTuple_m, zMax_ii, zMin_ii, zNeg_i, zNotV_b, zAllAny_l, wL_mset, szl0, szl1, szl2, szl3, szl4, szl5, szl6, szl7, szl8, szl9, szl10, szl11, szl12, szl13, szl14, szl15, szl16, szl17, szl18, szl19, szl20, szl21, szl22, szl23, szl24, szl25, szl26, szl27, szl28, szl29, szl30, szl31, szl32, szl33, szl34, szl35, szl36, szl37, szl38, szl39, szl40, szl41, szl42, szl43, szl44, szl45, szl46, szl47, szl48, szl49, szl50, szl51, szl52, szl53, szl54, szl55, szl56, szl57, szl58, szl59, szl60, szl61, szl62, szl63, szl64, szl65, szl66, szl67, szl68, szl69, frzV_ref, zfrz, Option.map_some, Option.map_none, frzV_non, frzV_bl, frzV_int, frzV_str, frzV_tup, frzV_lst, frzV_rol, frzV_dct]
  have hd := bd_div ha (k := 4) (by decide)
  unfold Bd at ha hb hd
  refine ⟨by decide, ite_any (fun _ => ⟨by decide, ret_same (q _ rfl)⟩) fun _ => ⟨by decide, ite_any (fun _ => ⟨divW (by decide) (by decide), mulW (by omega) (by omega) (by decide) (by decide), by decide, ret_same (q _ rfl)⟩) fun _ => ⟨by decide, ite_any (fun _ => ?_) fun _ => ?_⟩⟩⟩
  · refine ⟨divW (by decide) (by decide), by decide, atP_mod (by decide) (by decide) fun y hy => ret_same (q _ ?_)⟩
    simp only [List.mem_cons, List.not_mem_nil, or_false] at hy
    rcases hy with rfl | rfl | rfl <;> rfl
  · exact ⟨divW (by decide) (by decide), sp_L_word E hd hb fun s _ ho => ret_same (q _ ho)⟩
theorem sp_L_other_key {a b : Int} (ha : Bd a) (hb : Bd b) (q : ∀ v, pl v = true → Q v M) : ZCall T (k + 2) "_law_other_key" [.int a, .int b] M Q X := by
  apply call_L_other_key E rfl
  simp only [ir_L_other_key, N_L_other_key, zsp, zSs, zS, zE, zEs, zT, zBoVs, zBoTs, zA, zIfs, zI, zO, zG, zGs, zsCons, zsNil, zsIf, zsRet, zsRetN, zsExpr, zsAsg, zsPar, zsFor, zsSet, zsSetL, zsPass, zsBreak, zsCont, zsFrz, zEnds, zstart, z1, z2, zVar, zGet, zCst, zChain_eq, onB_bl, tOf, zNotT, zBoT, zBoV, zIf, zNil, zCons, zTup, zPart, zNoPart, zSl, zSlL, zCB, zCBL, zBF, zLM, LM.ty, IC.pv, zAbs, zList, zIsi, zVal, zRng1, zRng2, zEnum, Zz.gNm, Zz.gNil, Zz.gCons, Zz.gTup, zCall, zMt, zAppend, zExtend, zInsert, zPop, zReverse, zRev, zDct0, zDctK, zDctT, zYes, zLc, zwipe, zCmp, zEq, zIs, isNonP, List.map_cons, List.map_nil, List.cons_append, List.nil_append, List.replicate_succ, List.replicate_zero, List.length_cons, List.length_nil, List.set_cons_zero, List.set_cons_succ, List.getElem?_cons_zero, List.getElem?_cons_succ, Option.join_some, Nat.reduceAdd, Nat.reduceSub, Nat.zero_add, isiB, Bool.not_eq_true', decide_eq_false_iff_not, decide_eq_true_eq,  tyP_non, isDct_non, rs_non, tyP_bl, isDct_bl, rs_bl, tyP_int, isDct_int, rs_int, tyP_str, isDct_str, rs_str, tyP_tup, isDct_tup, rs_tup, tyP_lst, isDct_lst, rs_lst, tyP_rol, isDct_rol, rs_rol, tyP_dct, isDct_dct, rs_dct, asL_lst, asL_rol, asS_lst, asS_rol, asS_tup, asW_lst, asT_tup, asL_mset, asS_mset, asW_mset, refL_mset, isDct_mset, tyP_mset, rs_mset, Option.some.injEq, exists_eq_left', true_and, and_true, Bool.not_true, Bool.not_false, Bool.false_eq_true, if_true, if_false, ite_true, ite_false, String.reduceBEq, Bool.or_false, Bool.or_true, Bool.false_or, Bool.true_or, Bool.and_false, Bool.and_true, Bool.true_and, Bool.false_and, reduceIte, PV.int.injEq, exists_const, PV.tup.injEq, PV.lst.injEq, PV.ref.injEq, PV.ty.injEq, zIn, List.all_cons, List.all_nil, List.any_cons, List.any_nil, atP_0, atP_1, atP_2, flat_ints, Zz.any_ints, Nat.zero_le, IC.v, Nat.reduceLeDiff, forall_const, mset_mset, not_true_eq_false, not_false_eq_true, cpow9, pow9, cpow18, pow18, cpow30, pow30, ex2, Bool.true_eq_false, Int.cast_ofNat_Int, Int.ofNat_eq_natCast, flatP_non, flatP_bl, flatP_int, flatP_str, flatP_tup, flatP_lst, flatP_dct, eqF_ss, eqF_ii, eqF_bb, zB_Add_i, zB_Sub_i, zB_Mult_i, zB_FloorDiv_i, zB_Mod_i, zB_Pow_i, zB_BitAnd_i, zB_BitOr_i, zB_Add_s, zB_Add_t, zB_Add_l, zB_Mul_l, zIx_tup, zIx_lst, zIx_rol, zIx_str, zIx_mset, zLen_tup, zLen_lst, zLen_rol, zLen_str, zLen_mset, zInt_i, zInt_b, zTuple_t, zTuple_l, zTuple_m, zMax_ii, zMin_ii, zNeg_i, zNotV_b, zAllAny_l, wL_mset, szl0, szl1, szl2, szl3, szl4, szl5, szl6, szl7, szl8, szl9, szl10, szl11, szl12, szl13, szl14, szl15, szl16, szl17, szl18, szl19, szl20, szl21, szl22, szl23, szl24, szl25, szl26, szl27, szl28, szl29, szl30, szl31, szl32, szl33, szl34, szl35, szl36, szl37, szl38, szl39, szl40, szl41, szl42, szl43, szl44, szl45, szl46, szl47, szl48, szl49, szl50, szl51, szl52, szl53, szl54, szl55, szl56, szl57, szl58, szl59, szl60, szl61, szl62, szl63, szl64, szl65, szl66, szl67, szl68, szl69, frzV_ref, zfrz, Option.map_some, Option.map_none, frzV_non, frzV_bl, frzV_int, frzV_str, frzV_tup, frzV_lst, frzV_rol, frzV_dct]
  have hd := bd_div ha (k := 3) (by decide)
  unfold Bd at ha hb hd
  refine ⟨by decide, ite_any (fun _ => ⟨divW (by decide) (by decide), sp_L_odd E fun y hy => ret_same (q _ hy)⟩) fun _ => ⟨by decide, ite_any (fun _ => ?_) fun _ => ?_⟩⟩
  · refine ⟨divW (by decide) (by decide), by decide, atP_mod (by decide) (by simp) fun y hy => ret_same (q _ ?_)⟩
    simp only [List.mem_cons, List.not_mem_nil, or_false] at hy
    rcases hy with rfl | rfl <;> rfl
  · refine ⟨divW (by decide) (by decide), sp_L_word E hd hb fun s hs _ => ?_⟩
    simp only [zsp, zSs, zS, zE, zEs, zT, zBoVs, zBoTs, zA, zIfs, zI, zO, zG, zGs, zsCons, zsNil, zsIf, zsRet, zsRetN, zsExpr, zsAsg, zsPar, zsFor, zsSet, zsSetL, zsPass, zsBreak, zsCont, zsFrz, zEnds, zstart, z1, z2, zVar, zGet, zCst, zChain_eq, onB_bl, tOf, zNotT, zBoT, zBoV, zIf, zNil, zCons, zTup, zPart, zNoPart, zSl, zSlL, zCB, zCBL, zBF, zLM, LM.ty, IC.pv, zAbs, zList, zIsi, zVal, zRng1, zRng2, zEnum, Zz.gNm, Zz.gNil, Zz.gCons, Zz.gTup, zCall, zMt, zAppend, zExtend, zInsert, zPop, zReverse, zRev, zDct0, zDctK, zDctT, zYes, zLc, zwipe, zCmp, zEq, zIs, isNonP, List.map_cons, List.map_nil, List.cons_append, List.nil_append, List.replicate_succ, List.replicate_zero, List.length_cons, List.length_nil, List.set_cons_zero, List.set_cons_succ, List.getElem?_cons_zero, List.getElem?_cons_succ, Option.join_some, Nat.reduceAdd, Nat.reduceSub, Nat.zero_add, isiB, Bool.not_eq_true', decide_eq_false_iff_not, decide_eq_true_eq,  tyP_non, isDct_non, rs_non, tyP_bl, isDct_bl, rs_bl, tyP_int, isDct_int, rs_int, tyP_str, isDct_str, rs_str, tyP_tup, isDct_tup, rs_tup, tyP_lst, isDct_lst, rs_lst, tyP_rol, isDct_rol, rs_rol, tyP_dct, isDct_dct, rs_dct, asL_lst, asL_rol, asS_lst, asS_rol, asS_tup, asW_lst, asT_tup, asL_mset, asS_mset, asW_mset, refL_mset, isDct_mset, tyP_mset, rs_mset, Option.some.injEq, exists_eq_left', true_and, and_true, Bool.not_true, Bool.not_false, Bool.false_eq_true, if_true, if_false, ite_true, ite_false, String.reduceBEq, Bool.or_false, Bool.or_true, Bool.false_or, Bool.true_or, Bool.and_false, Bool.and_true, Bool.true_and, Bool.false_and, reduceIte, PV.int.injEq, exists_const, PV.tup.injEq, PV.lst.injEq, PV.ref.injEq, PV.ty.injEq, zIn, List.all_cons, List.all_nil, List.any_cons, List.any_nil, atP_0, atP_1, atP_2, flat_ints, Zz.any_ints, Nat.zero_le, IC.v, Nat.reduceLeDiff, forall_const, mset_mset, not_true_eq_false, not_false_eq_true, cpow9, pow9, cpow18, pow18, cpow30, pow30, ex2, Bool.true_eq_false, Int.cast_ofNat_Int, Int.ofNat_eq_natCast, flatP_non, flatP_bl, flatP_int, flatP_str, flatP_tup, flatP_lst, flatP_dct, eqF_ss, eqF_ii, eqF_bb, zB_Add_i, zB_Sub_i, zB_Mult_i, zB_FloorDiv_i, zB_Mod_i, zB_Pow_i, zB_BitAnd_i, zB_BitOr_i, zB_Add_s, zB_Add_t, zB_Add_l, zB_Mul_l, zIx_tup, zIx_lst, zIx_rol, zIx_str, zIx_mset, zLen_tup, zLen_lst, zLen_rol, zLen_str, zLen_mset, zInt_i, zInt_b, zTuple_t, zTuple_l, zTuple_m, zMax_ii, zMin_ii, zNeg_i, zNotV_b, zAllAny_l, wL_mset, szl0, szl1, szl2, szl3, szl4, szl5, szl6, szl7, szl8, szl9, szl10, szl11, szl12, szl13, szl14, szl15, szl16, szl17, szl18, szl19, szl20, szl21, szl22, szl23, szl24, szl25, szl26, szl27, szl28, szl29, szl30, szl31, szl32, szl33, szl34, szl35, szl36, szl37, szl38, szl39, szl40, szl41, szl42, szl43, szl44, szl45, szl46, szl47, szl48, szl49, szl50, szl51, szl52, szl53, szl54, szl55, szl56, szl57, szl58, szl59, szl60, szl61, szl62, szl63, szl64, szl65, szl66, szl67, szl68, szl69, frzV_ref, zfrz, Option.map_some, Option.map_none, frzV_non, frzV_bl, frzV_int, frzV_str, frzV_tup, frzV_lst, frzV_rol, frzV_dct]
    refine ⟨divW (by decide) (by decide), by omega, divW (by decide) (by decide), sp_L_sign E fun t ht => ?_⟩
    simp only [zsp, zSs, zS, zE, zEs, zT, zBoVs, zBoTs, zA, zIfs, zI, zO, zG, zGs, zsCons, zsNil, zsIf, zsRet, zsRetN, zsExpr, zsAsg, zsPar, zsFor, zsSet, zsSetL, zsPass, zsBreak, zsCont, zsFrz, zEnds, zstart, z1, z2, zVar, zGet, zCst, zChain_eq, onB_bl, tOf, zNotT, zBoT, zBoV, zIf, zNil, zCons, zTup, zPart, zNoPart, zSl, zSlL, zCB, zCBL, zBF, zLM, LM.ty, IC.pv, zAbs, zList, zIsi, zVal, zRng1, zRng2, zEnum, Zz.gNm, Zz.gNil, Zz.gCons, Zz.gTup, zCall, zMt, zAppend, zExtend, zInsert, zPop, zReverse, zRev, zDct0, zDctK, zDctT, zYes, zLc, zwipe, zCmp, zEq, zIs, isNonP, List.map_cons, List.map_nil, List.cons_append, List.nil_append, List.replicate_succ, List.replicate_zero, List.length_cons, List.length_nil, List.set_cons_zero, List.set_cons_succ, List.getElem?_cons_zero, List.getElem?_cons_succ, Option.join_some, Nat.reduceAdd, Nat.reduceSub, Nat.zero_add, isiB, Bool.not_eq_true', decide_eq_false_iff_not, decide_eq_true_eq,  tyP_non, isDct_non, rs_non, tyP_bl, isDct_bl, rs_bl, tyP_int, isDct_int, rs_int, tyP_str, isDct_str, rs_str, tyP_tup, isDct_tup, rs_tup, tyP_lst, isDct_lst, rs_lst, tyP_rol, isDct_rol, rs_rol, tyP_dct, isDct_dct, rs_dct, asL_lst, asL_rol, asS_lst, asS_rol, asS_tup, asW_lst, asT_tup, asL_mset, asS_mset, asW_mset, refL_mset, isDct_mset, tyP_mset, rs_mset, Option.some.injEq, exists_eq_left', true_and, and_true, Bool.not_true, Bool.not_false, Bool.false_eq_true, if_true, if_false, ite_true, ite_false, String.reduceBEq, Bool.or_false, Bool.or_true, Bool.false_or, Bool.true_or, Bool.and_false, Bool.and_true, Bool.true_and, Bool.false_and, reduceIte, PV.int.injEq, exists_const, PV.tup.injEq, PV.lst.injEq, PV.ref.injEq, PV.ty.injEq, zIn, List.all_cons, List.all_nil, List.any_cons, List.any_nil, atP_0, atP_1, atP_2, flat_ints, Zz.any_ints, Nat.zero_le, IC.v, Nat.reduceLeDiff, forall_const, mset_mset, not_true_eq_false, not_false_eq_true, cpow9, pow9, cpow18, pow18, cpow30, pow30, ex2, Bool.true_eq_false, Int.cast_ofNat_Int, Int.ofNat_eq_natCast, flatP_non, flatP_bl, flatP_int, flatP_str, flatP_tup, flatP_lst, flatP_dct, eqF_ss, eqF_ii, eqF_bb, zB_Add_i, zB_Sub_i, zB_Mult_i, zB_FloorDiv_i, zB_Mod_i, zB_Pow_i, zB_BitAnd_i, zB_BitOr_i, zB_Add_s, zB_Add_t, zB_Add_l, zB_Mul_l, zIx_tup, zIx_lst, zIx_rol, zIx_str, zIx_mset, zLen_tup, zLen_lst, zLen_rol, zLen_str, zLen_mset, zInt_i, zInt_b, zTuple_t, zTuple_l, zTuple_m, zMax_ii, zMin_ii, zNeg_i, zNotV_b, zAllAny_l, wL_mset, szl0, szl1, szl2, szl3, szl4, szl5, szl6, szl7, szl8, szl9, szl10, szl11, szl12, szl13, szl14, szl15, szl16, szl17, szl18, szl19, szl20, szl21, szl22, szl23, szl24, szl25, szl26, szl27, szl28, szl29, szl30, szl31, szl32, szl33, szl34, szl35, szl36, szl37, szl38, szl39, szl40, szl41, szl42, szl43, szl44, szl45, szl46, szl47, szl48, szl49, szl50, szl51, szl52, szl53, szl54, szl55, szl56, szl57, szl58, szl59, szl60, szl61, szl62, szl63, szl64, szl65, szl66, szl67, szl68, szl69, frzV_ref, zfrz, Option.map_some, Option.map_none, frzV_non, frzV_bl, frzV_int, frzV_str, frzV_tup, frzV_lst, frzV_rol, frzV_dct]
    have hc : ∀ lo hi, (cutS s lo hi).length ≤ 8 := fun lo hi => by
      show (List.toArray _).size ≤ 8
      rw [List.size_toArray, List.length_take, List.length_drop]
      have : s.cps.toList.length = s.length := rfl
      omega
    refine ⟨Nat.le_trans (m := 9) (by have := hc none (some (b / 8 % (↑s.length + 1))); omega) (by decide), Nat.le_trans (m := 17) ?_ (by decide), ret_same (q _ rfl)⟩
    rw [str_app_len]
    have h1 := hc none (some (b / 8 % (↑s.length + 1)))
    have h2 := hc (some (b / 8 % (↑s.length + 1) + 1)) none
    omega
theorem sp_L_within {ps : List PV} {b : Int} (hp : pls ps = true) (hl : ps.length ≤ 1000) (q : ∀ v, pl v = true → Q v M) : ZCall T (k + 2) "_law_within" [.lst ps, .int b] M Q X := by
  apply call_L_within E rfl
  simp only [ir_L_within, N_L_within, zsp, zSs, zS, zE, zEs, zT, zBoVs, zBoTs, zA, zIfs, zI, zO, zG, zGs, zsCons, zsNil, zsIf, zsRet, zsRetN, zsExpr, zsAsg, zsPar, zsFor, zsSet, zsSetL, zsPass, zsBreak, zsCont, zsFrz, zEnds, zstart, z1, z2, zVar, zGet, zCst, zChain_eq, onB_bl, tOf, zNotT, zBoT, zBoV, zIf, zNil, zCons, zTup, zPart, zNoPart, zSl, zSlL, zCB, zCBL, zBF, zLM, LM.ty, IC.pv, zAbs, zList, zIsi, zVal, zRng1, zRng2, zEnum, Zz.gNm, Zz.gNil, Zz.gCons, Zz.gTup, zCall, zMt, zAppend, zExtend, zInsert, zPop, zReverse, zRev, zDct0, zDctK, zDctT, zYes, zLc, zwipe, zCmp, zEq, zIs, isNonP, List.map_cons, List.map_nil, List.cons_append, List.nil_append, List.replicate_succ, List.replicate_zero, List.length_cons, List.length_nil, List.set_cons_zero, List.set_cons_succ, List.getElem?_cons_zero, List.getElem?_cons_succ, Option.join_some, Nat.reduceAdd, Nat.reduceSub, Nat.zero_add, isiB, Bool.not_eq_true', decide_eq_false_iff_not, decide_eq_true_eq,  tyP_non, isDct_non, rs_non, tyP_bl, isDct_bl, rs_bl, tyP_int, isDct_int, rs_int, tyP_str, isDct_str, rs_str, tyP_tup, isDct_tup, rs_tup, tyP_lst, isDct_lst, rs_lst, tyP_rol, isDct_rol, rs_rol, tyP_dct, isDct_dct, rs_dct, asL_lst, asL_rol, asS_lst, asS_rol, asS_tup, asW_lst, asT_tup, asL_mset, asS_mset, asW_mset, refL_mset, isDct_mset, tyP_mset, rs_mset, Option.some.injEq, exists_eq_left', true_and, and_true, Bool.not_true, Bool.not_false, Bool.false_eq_true, if_true, if_false, ite_true, ite_false, String.reduceBEq, Bool.or_false, Bool.or_true, Bool.false_or, Bool.true_or, Bool.and_false, Bool.and_true, Bool.true_and, Bool.false_and, reduceIte, PV.int.injEq, exists_const, PV.tup.injEq, PV.lst.injEq, PV.ref.injEq, PV.ty.injEq, zIn, List.all_cons, List.all_nil, List.any_cons, List.any_nil, atP_0, atP_1, atP_2, flat_ints, Zz.any_ints, Nat.zero_le, IC.v, Nat.reduceLeDiff, forall_const, mset_mset, not_true_eq_false, not_false_eq_true, cpow9, pow9, cpow18, pow18, cpow30, pow30, ex2, Bool.true_eq_false, Int.cast_ofNat_Int, Int.ofNat_eq_natCast, flatP_non, flatP_bl, flatP_int, flatP_str, flatP_tup, flatP_lst, flatP_dct, eqF_ss, eqF_ii, eqF_bb, zB_Add_i, zB_Sub_i, zB_Mult_i, zB_FloorDiv_i, zB_Mod_i, zB_Pow_i, zB_BitAnd_i, zB_BitOr_i, zB_Add_s, zB_Add_t, zB_Add_l, zB_Mul_l, zIx_tup, zIx_lst, zIx_rol, zIx_str, zIx_mset, zLen_tup, zLen_lst, zLen_rol, zLen_str, zLen_mset, zInt_i, zInt_b, zTuple_t, zTuple_l, zTuple_m, zMax_ii, zMin_ii, zNeg_i, zNotV_b, zAllAny_l, wL_mset, szl0, szl1, szl2, szl3, szl4, szl5, szl6, szl7, szl8, szl9, szl10, szl11, szl12, szl13, szl14, szl15, szl16, szl17, szl18, szl19, szl20, szl21, szl22, szl23, szl24, szl25, szl26, szl27, szl28, szl29, szl30, szl31, szl32, szl33, szl34, szl35, szl36, szl37, szl38, szl39, szl40, szl41, szl42, szl43, szl44, szl45, szl46, szl47, szl48, szl49, szl50, szl51, szl52, szl53, szl54, szl55, szl56, szl57, szl58, szl59, szl60, szl61, szl62, szl63, szl64, szl65, szl66, szl67, szl68, szl69, frzV_ref, zfrz, Option.map_some, Option.map_none, frzV_non, frzV_bl, frzV_int, frzV_str, frzV_tup, frzV_lst, frzV_rol, frzV_dct]
  have hs : ps.length ≤ sizeLine := Nat.le_trans hl (by decide)
  exact ⟨by decide, ite_any (fun _ => ⟨hs, hs, ret_same (q _ hp)⟩) fun _ => ⟨by decide, ite_any (fun _ => ⟨divW (by decide) (by decide), sp_L_odd E fun y hy => ret_same (q _ hy)⟩) fun _ => ret_same (q _ hp)⟩⟩
theorem sp_L_good_thing {ns : List Int} (hn : ∀ n ∈ ns, Bd n) (hl : 9 ≤ ns.length) (q : ∀ v, pl v = true → Q v M) : ZCall T (k + 3) "_law_good_thing" [.lst (ns.map .int)] M Q X := by
  apply call_L_good_thing E rfl
  simp only [ir_L_good_thing, N_L_good_thing, zsp, zSs, zS, zE, zEs, zT, zBoVs, zBoTs, zA, zIfs, zI, zO, zG, zGs, zsCons, zsNil, zsIf, zsRet, zsRetN, zsExpr, zsAsg, zsPar, zsFor, zsSet, zsSetL, zsPass, zsBreak, zsCont, zsFrz, zEnds, zstart, z1, z2, zVar, zGet, zCst, zChain_eq, onB_bl, tOf, zNotT, zBoT, zBoV, zIf, zNil, zCons, zTup, zPart, zNoPart, zSl, zSlL, zCB, zCBL, zBF, zLM, LM.ty, IC.pv, zAbs, zList, zIsi, zVal, zRng1, zRng2, zEnum, Zz.gNm, Zz.gNil, Zz.gCons, Zz.gTup, zCall, zMt, zAppend, zExtend, zInsert, zPop, zReverse, zRev, zDct0, zDctK, zDctT, zYes, zLc, zwipe, zCmp, zEq, zIs, isNonP, List.map_cons, List.map_nil, List.cons_append, List.nil_append, List.replicate_succ, List.replicate_zero, List.length_cons, List.length_nil, List.set_cons_zero, List.set_cons_succ, List.getElem?_cons_zero, List.getElem?_cons_succ, Option.join_some, Nat.reduceAdd, Nat.reduceSub, Nat.zero_add, isiB, Bool.not_eq_true', decide_eq_false_iff_not, decide_eq_true_eq,  tyP_non, isDct_non, rs_non, tyP_bl, isDct_bl, rs_bl, tyP_int, isDct_int, rs_int, tyP_str, isDct_str, rs_str, tyP_tup, isDct_tup, rs_tup, tyP_lst, isDct_lst, rs_lst, tyP_rol, isDct_rol, rs_rol, tyP_dct, isDct_dct, rs_dct, asL_lst, asL_rol, asS_lst, asS_rol, asS_tup, asW_lst, asT_tup, asL_mset, asS_mset, asW_mset, refL_mset, isDct_mset, tyP_mset, rs_mset, Option.some.injEq, exists_eq_left', true_and, and_true, Bool.not_true, Bool.not_false, Bool.false_eq_true, if_true, if_false, ite_true, ite_false, String.reduceBEq, Bool.or_false, Bool.or_true, Bool.false_or, Bool.true_or, Bool.and_false, Bool.and_true, Bool.true_and, Bool.false_and, reduceIte, PV.int.injEq, exists_const, PV.tup.injEq, PV.lst.injEq, PV.ref.injEq, PV.ty.injEq, zIn, List.all_cons, List.all_nil, List.any_cons, List.any_nil, atP_0, atP_1, atP_2, flat_ints, Zz.any_ints, Nat.zero_le, IC.v, Nat.reduceLeDiff, forall_const, mset_mset, not_true_eq_false, not_false_eq_true, cpow9, pow9, cpow18, pow18, cpow30, pow30, ex2, Bool.true_eq_false, Int.cast_ofNat_Int, Int.ofNat_eq_natCast, flatP_non, flatP_bl, flatP_int, flatP_str, flatP_tup, flatP_lst, flatP_dct, eqF_ss, eqF_ii, eqF_bb, zB_Add_i, zB_Sub_i, zB_Mult_i, zB_FloorDiv_i, zB_Mod_i, zB_Pow_i, zB_BitAnd_i, zB_BitOr_i, zB_Add_s, zB_Add_t, zB_Add_l, zB_Mul_l, zIx_tup, zIx_lst, zIx_rol, zIx_str, zIx_mset, zLen_tup, zLen_lst, zLen_rol, zLen_str, zLen_mset, zInt_i, zInt_b, zTuple_t, zTuple_l, zTuple_m, zMax_ii, zMin_ii, zNeg_i, zNotV_b, zAllAny_l, wL_mset, szl0, szl1, szl2, szl3, szl4, szl5, szl6, szl7, szl8, szl9, szl10, szl11, szl12, szl13, szl14, szl15, szl16, szl17, szl18, szl19, szl20, szl21, szl22, szl23, szl24, szl25, szl26, szl27, szl28, szl29, szl30, szl31, szl32, szl33, szl34, szl35, szl36, szl37, szl38, szl39, szl40, szl41, szl42, szl43, szl44, szl45, szl46, szl47, szl48, szl49, szl50, szl51, szl52, szl53, szl54, szl55, szl56, szl57, szl58, szl59, szl60, szl61, szl62, szl63, szl64, szl65, szl66, szl67, szl68, szl69, frzV_ref, zfrz, Option.map_some, Option.map_none, frzV_non, frzV_bl, frzV_int, frzV_str, frzV_tup, frzV_lst, frzV_rol, frzV_dct]
  refine atP_int hn (by decide) (by omega) fun n _ => ?_
  simp only [zsp, zSs, zS, zE, zEs, zT, zBoVs, zBoTs, zA, zIfs, zI, zO, zG, zGs, zsCons, zsNil, zsIf, zsRet, zsRetN, zsExpr, zsAsg, zsPar, zsFor, zsSet, zsSetL, zsPass, zsBreak, zsCont, zsFrz, zEnds, zstart, z1, z2, zVar, zGet, zCst, zChain_eq, onB_bl, tOf, zNotT, zBoT, zBoV, zIf, zNil, zCons, zTup, zPart, zNoPart, zSl, zSlL, zCB, zCBL, zBF, zLM, LM.ty, IC.pv, zAbs, zList, zIsi, zVal, zRng1, zRng2, zEnum, Zz.gNm, Zz.gNil, Zz.gCons, Zz.gTup, zCall, zMt, zAppend, zExtend, zInsert, zPop, zReverse, zRev, zDct0, zDctK, zDctT, zYes, zLc, zwipe, zCmp, zEq, zIs, isNonP, List.map_cons, List.map_nil, List.cons_append, List.nil_append, List.replicate_succ, List.replicate_zero, List.length_cons, List.length_nil, List.set_cons_zero, List.set_cons_succ, List.getElem?_cons_zero, List.getElem?_cons_succ, Option.join_some, Nat.reduceAdd, Nat.reduceSub, Nat.zero_add, isiB, Bool.not_eq_true', decide_eq_false_iff_not, decide_eq_true_eq,  tyP_non, isDct_non, rs_non, tyP_bl, isDct_bl, rs_bl, tyP_int, isDct_int, rs_int, tyP_str, isDct_str, rs_str, tyP_tup, isDct_tup, rs_tup, tyP_lst, isDct_lst, rs_lst, tyP_rol, isDct_rol, rs_rol, tyP_dct, isDct_dct, rs_dct, asL_lst, asL_rol, asS_lst, asS_rol, asS_tup, asW_lst, asT_tup, asL_mset, asS_mset, asW_mset, refL_mset, isDct_mset, tyP_mset, rs_mset, Option.some.injEq, exists_eq_left', true_and, and_true, Bool.not_true, Bool.not_false, Bool.false_eq_true, if_true, if_false, ite_true, ite_false, String.reduceBEq, Bool.or_false, Bool.or_true, Bool.false_or, Bool.true_or, Bool.and_false, Bool.and_true, Bool.true_and, Bool.false_and, reduceIte, PV.int.injEq, exists_const, PV.tup.injEq, PV.lst.injEq, PV.ref.injEq, PV.ty.injEq, zIn, List.all_cons, List.all_nil, List.any_cons, List.any_nil, atP_0, atP_1, atP_2, flat_ints, Zz.any_ints, Nat.zero_le, IC.v, Nat.reduceLeDiff, forall_const, mset_mset, not_true_eq_false, not_false_eq_true, cpow9, pow9, cpow18, pow18, cpow30, pow30, ex2, Bool.true_eq_false, Int.cast_ofNat_Int, Int.ofNat_eq_natCast, flatP_non, flatP_bl, flatP_int, flatP_str, flatP_tup, flatP_lst, flatP_dct, eqF_ss, eqF_ii, eqF_bb, zB_Add_i, zB_Sub_i, zB_Mult_i, zB_FloorDiv_i, zB_Mod_i, zB_Pow_i, zB_BitAnd_i, zB_BitOr_i, zB_Add_s, zB_Add_t, zB_Add_l, zB_Mul_l, zIx_tup, zIx_lst, zIx_rol, zIx_str, zIx_mset, zLen_tup, zLen_lst, zLen_rol, zLen_str, zLen_mset, zInt_i, zInt_b, zTuple_t, zTuple_l, zTuple_m, zMax_ii, zMin_ii, zNeg_i, zNotV_b, zAllAny_l, wL_mset, szl0, szl1, szl2, szl3, szl4, szl5, szl6, szl7, szl8, szl9, szl10, szl11, szl12, szl13, szl14, szl15, szl16, szl17, szl18, szl19, szl20, szl21, szl22, szl23, szl24, szl25, szl26, szl27, szl28, szl29, szl30, szl31, szl32, szl33, szl34, szl35, szl36, szl37, szl38, szl39, szl40, szl41, szl42, szl43, szl44, szl45, szl46, szl47, szl48, szl49, szl50, szl51, szl52, szl53, szl54, szl55, szl56, szl57, szl58, szl59, szl60, szl61, szl62, szl63, szl64, szl65, szl66, szl67, szl68, szl69, frzV_ref, zfrz, Option.map_some, Option.map_none, frzV_non, frzV_bl, frzV_int, frzV_str, frzV_tup, frzV_lst, frzV_rol, frzV_dct]
  have h0 := Int.emod_nonneg n (show (4 : Int) ≠ 0 by decide)
  have h1 := Int.emod_lt_of_pos n (show (0 : Int) < 4 by decide)
  have hs : (4 : Int) ≤ (sizeLine : Int) := by decide
  refine ⟨by decide, by omega, by omega, lc_all (fun _ y => atom y = true) _ (fun x hx N R hR => ?_) fun ys hys => ?_⟩
  · obtain ⟨j, hj, rfl⟩ := rngP_mem hx
    simp only [zsp, zSs, zS, zE, zEs, zT, zBoVs, zBoTs, zA, zIfs, zI, zO, zG, zGs, zsCons, zsNil, zsIf, zsRet, zsRetN, zsExpr, zsAsg, zsPar, zsFor, zsSet, zsSetL, zsPass, zsBreak, zsCont, zsFrz, zEnds, zstart, z1, z2, zVar, zGet, zCst, zChain_eq, onB_bl, tOf, zNotT, zBoT, zBoV, zIf, zNil, zCons, zTup, zPart, zNoPart, zSl, zSlL, zCB, zCBL, zBF, zLM, LM.ty, IC.pv, zAbs, zList, zIsi, zVal, zRng1, zRng2, zEnum, Zz.gNm, Zz.gNil, Zz.gCons, Zz.gTup, zCall, zMt, zAppend, zExtend, zInsert, zPop, zReverse, zRev, zDct0, zDctK, zDctT, zYes, zLc, zwipe, zCmp, zEq, zIs, isNonP, List.map_cons, List.map_nil, List.cons_append, List.nil_append, List.replicate_succ, List.replicate_zero, List.length_cons, List.length_nil, List.set_cons_zero, List.set_cons_succ, List.getElem?_cons_zero, List.getElem?_cons_succ, Option.join_some, Nat.reduceAdd, Nat.reduceSub, Nat.zero_add, isiB, Bool.not_eq_true', decide_eq_false_iff_not, decide_eq_true_eq,  tyP_non, isDct_non, rs_non, tyP_bl, isDct_bl, rs_bl, tyP_int, isDct_int, rs_int, tyP_str, isDct_str, rs_str, tyP_tup, isDct_tup, rs_tup, tyP_lst, isDct_lst, rs_lst, tyP_rol, isDct_rol, rs_rol, tyP_dct, isDct_dct, rs_dct, asL_lst, asL_rol, asS_lst, asS_rol, asS_tup, asW_lst, asT_tup, asL_mset, asS_mset, asW_mset, refL_mset, isDct_mset, tyP_mset, rs_mset, Option.some.injEq, exists_eq_left', true_and, and_true, Bool.not_true, Bool.not_false, Bool.false_eq_true, if_true, if_false, ite_true, ite_false, String.reduceBEq, Bool.or_false, Bool.or_true, Bool.false_or, Bool.true_or, Bool.and_false, Bool.and_true, Bool.true_and, Bool.false_and, reduceIte, PV.int.injEq, exists_const, PV.tup.injEq, PV.lst.injEq, PV.ref.injEq, PV.ty.injEq, zIn, List.all_cons, List.all_nil, List.any_cons, List.any_nil, atP_0, atP_1, atP_2, flat_ints, Zz.any_ints, Nat.zero_le, IC.v, Nat.reduceLeDiff, forall_const, mset_mset, not_true_eq_false, not_false_eq_true, cpow9, pow9, cpow18, pow18, cpow30, pow30, ex2, Bool.true_eq_false, Int.cast_ofNat_Int, Int.ofNat_eq_natCast, flatP_non, flatP_bl, flatP_int, flatP_str, flatP_tup, flatP_lst, flatP_dct, eqF_ss, eqF_ii, eqF_bb, zB_Add_i, zB_Sub_i, zB_Mult_i, zB_FloorDiv_i, zB_Mod_i, zB_Pow_i, zB_BitAnd_i, zB_BitOr_i, zB_Add_s, zB_Add_t, zB_Add_l, zB_Mul_l, zIx_tup, zIx_lst, zIx_rol, zIx_str, zIx_mset, zLen_tup, zLen_lst, zLen_rol, zLen_str, zLen_mset, zInt_i, zInt_b, zTuple_t, zTuple_l, zTuple_m, zMax_ii, zMin_ii, zNeg_i, zNotV_b, zAllAny_l, wL_mset, szl0, szl1, szl2, szl3, szl4, szl5, szl6, szl7, szl8, szl9, szl10, szl11, szl12, szl13, szl14, szl15, szl16, szl17, szl18, szl19, szl20, szl21, szl22, szl23, szl24, szl25, szl26, szl27, szl28, szl29, szl30, szl31, szl32, szl33, szl34, szl35, szl36, szl37, szl38, szl39, szl40, szl41, szl42, szl43, szl44, szl45, szl46, szl47, szl48, szl49, szl50, szl51, szl52, szl53, szl54, szl55, szl56, szl57, szl58, szl59, szl60, szl61, szl62, szl63, szl64, szl65, szl66, szl67, szl68, szl69, frzV_ref, zfrz, Option.map_some, Option.map_none, frzV_non, frzV_bl, frzV_int, frzV_str, frzV_tup, frzV_lst, frzV_rol, frzV_dct]
    refine ⟨mulW (by omega) (by omega) (by omega) (by omega), atP_int hn (by omega) (by omega) fun a ha => ⟨mulW (by omega) (by omega) (by omega) (by omega), atP_int hn (by omega) (by omega) fun b hb => sp_L_key E ha hb hR⟩⟩
  · have hy := forall2_len hys
    rw [rngP_len] at hy
    refine ⟨Nat.le_trans (m := 4) (by omega) (by decide), ret_same (q _ (pls_all fun y hy => atom_pl (forall2_mem hys (fun _ _ _ h => h) y hy)))⟩
theorem sp_L_other_part {c w : PV} {a b : Int} (hc : pl c = true) (hw : pl w = true) (q : ∀ v, pl v = true → Q v M) : ZCall T (k + 2) "_law_other_part" [c, w, .int a, .int b] M Q X := by
  apply call_L_other_part E rfl
  simp only [ir_L_other_part, N_L_other_part, zsp, zSs, zS, zE, zEs, zT, zBoVs, zBoTs, zA, zIfs, zI, zO, zG, zGs, zsCons, zsNil, zsIf, zsRet, zsRetN, zsExpr, zsAsg, zsPar, zsFor, zsSet, zsSetL, zsPass, zsBreak, zsCont, zsFrz, zEnds, zstart, z1, z2, zVar, zGet, zCst, zChain_eq, onB_bl, tOf, zNotT, zBoT, zBoV, zIf, zNil, zCons, zTup, zPart, zNoPart, zSl, zSlL, zCB, zCBL, zBF, zLM, LM.ty, IC.pv, zAbs, zList, zIsi, zVal, zRng1, zRng2, zEnum, Zz.gNm, Zz.gNil, Zz.gCons, Zz.gTup, zCall, zMt, zAppend, zExtend, zInsert, zPop, zReverse, zRev, zDct0, zDctK, zDctT, zYes, zLc, zwipe, zCmp, zEq, zIs, isNonP, List.map_cons, List.map_nil, List.cons_append, List.nil_append, List.replicate_succ, List.replicate_zero, List.length_cons, List.length_nil, List.set_cons_zero, List.set_cons_succ, List.getElem?_cons_zero, List.getElem?_cons_succ, Option.join_some, Nat.reduceAdd, Nat.reduceSub, Nat.zero_add, isiB, Bool.not_eq_true', decide_eq_false_iff_not, decide_eq_true_eq,  tyP_non, isDct_non, rs_non, tyP_bl, isDct_bl, rs_bl, tyP_int, isDct_int, rs_int, tyP_str, isDct_str, rs_str, tyP_tup, isDct_tup, rs_tup, tyP_lst, isDct_lst, rs_lst, tyP_rol, isDct_rol, rs_rol, tyP_dct, isDct_dct, rs_dct, asL_lst, asL_rol, asS_lst, asS_rol, asS_tup, asW_lst, asT_tup, asL_mset, asS_mset, asW_mset, refL_mset, isDct_mset, tyP_mset, rs_mset, Option.some.injEq, exists_eq_left', true_and, and_true, Bool.not_true, Bool.not_false, Bool.false_eq_true, if_true, if_false, ite_true, ite_false, String.reduceBEq, Bool.or_false, Bool.or_true, Bool.false_or, Bool.true_or, Bool.and_false, Bool.and_true, Bool.true_and, Bool.false_and, reduceIte, PV.int.injEq, exists_const, PV.tup.injEq, PV.lst.injEq, PV.ref.injEq, PV.ty.injEq, zIn, List.all_cons, List.all_nil, List.any_cons, List.any_nil, atP_0, atP_1, atP_2, flat_ints, Zz.any_ints, Nat.zero_le, IC.v, Nat.reduceLeDiff, forall_const, mset_mset, not_true_eq_false, not_false_eq_true, cpow9, pow9, cpow18, pow18, cpow30, pow30, ex2, Bool.true_eq_false, Int.cast_ofNat_Int, Int.ofNat_eq_natCast, flatP_non, flatP_bl, flatP_int, flatP_str, flatP_tup, flatP_lst, flatP_dct, eqF_ss, eqF_ii, eqF_bb, zB_Add_i, zB_Sub_i, zB_Mult_i, zB_FloorDiv_i, zB_Mod_i, zB_Pow_i, zB_BitAnd_i, zB_BitOr_i, zB_Add_s, zB_Add_t, zB_Add_l, zB_Mul_l, zIx_tup, zIx_lst, zIx_rol, zIx_str, zIx_mset, zLen_tup, zLen_lst, zLen_rol, zLen_str, zLen_mset, zInt_i, zInt_b, zTuple_t, zTuple_l, zTuple_m, zMax_ii, zMin_ii, zNeg_i, zNotV_b, zAllAny_l, wL_mset, szl0, szl1, szl2, szl3, szl4, szl5, szl6, szl7, szl8, szl9, szl10, szl11, szl12, szl13, szl14, szl15, szl16, szl17, szl18, szl19, szl20, szl21, szl22, szl23, szl24, szl25, szl26, szl27, szl28, szl29, szl30, szl31, szl32, szl33, szl34, szl35, szl36, szl37, szl38, szl39, szl40, szl41, szl42, szl43, szl44, szl45, szl46, szl47, szl48, szl49, szl50, szl51, szl52, szl53, szl54, szl55, szl56, szl57, szl58, szl59, szl60, szl61, szl62, szl63, szl64, szl65, szl66, szl67, szl68, szl69, frzV_ref, zfrz, Option.map_some, Option.map_none, frzV_non, frzV_bl, frzV_int, frzV_str, frzV_tup, frzV_lst, frzV_rol, frzV_dct]
  have two : ∀ {x y : PV}, pl x = true → pl y = true → pl (.tup [x, y]) = true := fun {x y} h1 h2 => pls_all fun z hz => by
    simp only [List.mem_cons, List.not_mem_nil, or_false] at hz
    rcases hz with rfl | rfl <;> assumption
  refine ⟨by decide, ite_any (fun _ => sp_L_odd E fun y hy => ret_same (q _ (two hy hw))) fun _ => ⟨by decide, ite_any (fun _ => sp_L_odd E fun y hy => ret_same (q _ (two hc hy))) fun _ => ⟨by decide, ite_any (fun _ => ?_) fun _ => ⟨by decide, ite_any (fun _ => sp_L_odd E fun y hy => ret_same (q _ hy)) fun _ => ⟨by decide, ite_any (fun _ => ?_) fun _ => ⟨by decide, ret_same (q _ (two rfl hw))⟩⟩⟩⟩⟩⟩
  · refine ⟨by decide, atP_mod (by decide) (by simp) fun y hy => ret_same (q _ ?_)⟩
    simp only [List.mem_cons, List.not_mem_nil, or_false] at hy
    rcases hy with rfl | rfl | rfl | rfl <;> simp [pl, pls, hc, hw]
  · refine ⟨by decide, atP_mod (by decide) (by simp) fun y hy => ret_same (q _ (two hc ?_))⟩
    simp only [List.mem_cons, List.not_mem_nil, or_false] at hy
    rcases hy with rfl | rfl | rfl | rfl | rfl | rfl | rfl | rfl | rfl <;> rfl
theorem sp_L_some_thing {ns : List Int} (hn : ∀ n ∈ ns, Bd n) (hl : ns.length = 15) (q : ∀ v, pl v = true → Q v M) : ZCall T (k + 3) "_law_some_thing" [.lst (ns.map .int)] M Q X := by
  apply call_L_some_thing E rfl
  simp only [ir_L_some_thing, N_L_some_thing, zsp, zSs, zS, zE, zEs, zT, zBoVs, zBoTs, zA, zIfs, zI, zO, zG, zGs, zsCons, zsNil, zsIf, zsRet, zsRetN, zsExpr, zsAsg, zsPar, zsFor, zsSet, zsSetL, zsPass, zsBreak, zsCont, zsFrz, zEnds, zstart, z1, z2, zVar, zGet, zCst, zChain_eq, onB_bl, tOf, zNotT, zBoT, zBoV, zIf, zNil, zCons, zTup, zPart, zNoPart, zSl, zSlL, zCB, zCBL, zBF, zLM, LM.ty, IC.pv, zAbs, zList, zIsi, zVal, zRng1, zRng2, zEnum, Zz.gNm, Zz.gNil, Zz.gCons, Zz.gTup, zCall, zMt, zAppend, zExtend, zInsert, zPop, zReverse, zRev, zDct0, zDctK, zDctT, zYes, zLc, zwipe, zCmp, zEq, zIs, isNonP, List.map_cons, List.map_nil, List.cons_append, List.nil_append, List.replicate_succ, List.replicate_zero, List.length_cons, List.length_nil, List.set_cons_zero, List.set_cons_succ, List.getElem?_cons_zero, List.getElem?_cons_succ, Option.join_some, Nat.reduceAdd, Nat.reduceSub, Nat.zero_add, isiB, Bool.not_eq_true', decide_eq_false_iff_not, decide_eq_true_eq,  tyP_non, isDct_non, rs_non, tyP_bl, isDct_bl, rs_bl, tyP_int, isDct_int, rs_int, tyP_str, isDct_str, rs_str, tyP_tup, isDct_tup, rs_tup, tyP_lst, isDct_lst, rs_lst, tyP_rol, isDct_rol, rs_rol, tyP_dct, isDct_dct, rs_dct, asL_lst, asL_rol, asS_lst, asS_rol, asS_tup, asW_lst, asT_tup, asL_mset, asS_mset, asW_mset, refL_mset, isDct_mset, tyP_mset, rs_mset, Option.some.injEq, exists_eq_left', true_and, and_true, Bool.not_true, Bool.not_false, Bool.false_eq_true, if_true, if_false, ite_true, ite_false, String.reduceBEq, Bool.or_false, Bool.or_true, Bool.false_or, Bool.true_or, Bool.and_false, Bool.and_true, Bool.true_and, Bool.false_and, reduceIte, PV.int.injEq, exists_const, PV.tup.injEq, PV.lst.injEq, PV.ref.injEq, PV.ty.injEq, zIn, List.all_cons, List.all_nil, List.any_cons, List.any_nil, atP_0, atP_1, atP_2, flat_ints, Zz.any_ints, Nat.zero_le, IC.v, Nat.reduceLeDiff, forall_const, mset_mset, not_true_eq_false, not_false_eq_true, cpow9, pow9, cpow18, pow18, cpow30, pow30, ex2, Bool.true_eq_false, Int.cast_ofNat_Int, Int.ofNat_eq_natCast, flatP_non, flatP_bl, flatP_int, flatP_str, flatP_tup, flatP_lst, flatP_dct, eqF_ss, eqF_ii, eqF_bb, zB_Add_i, zB_Sub_i, zB_Mult_i, zB_FloorDiv_i, zB_Mod_i, zB_Pow_i, zB_BitAnd_i, zB_BitOr_i, zB_Add_s, zB_Add_t, zB_Add_l, zB_Mul_l, zIx_tup, zIx_lst, zIx_rol, zIx_str, zIx_mset, zLen_tup, zLen_lst, zLen_rol, zLen_str, zLen_mset, zInt_i, zInt_b, zTuple_t, zTuple_l, zTuple_m, zMax_ii, zMin_ii, zNeg_i, zNotV_b, zAllAny_l, wL_mset, szl0, szl1, szl2, szl3, szl4, szl5, szl6, szl7, szl8, szl9, szl10, szl11, szl12, szl13, szl14, szl15, szl16, szl17, szl18, szl19, szl20, szl21, szl22, szl23, szl24, szl25, szl26, szl27, szl28, szl29, szl30, szl31, szl32, szl33, szl34, szl35, szl36, szl37, szl38, szl39, szl40, szl41, szl42, szl43, szl44, szl45, szl46, szl47, szl48, szl49, szl50, szl51, szl52, szl53, szl54, szl55, szl56, szl57, szl58, szl59, szl60, szl61, szl62, szl63, szl64, szl65, szl66, szl67, szl68, szl69, frzV_ref, zfrz, Option.map_some, Option.map_none, frzV_non, frzV_bl, frzV_int, frzV_str, frzV_tup, frzV_lst, frzV_rol, frzV_dct]
  refine atP_int hn (by decide) (by omega) fun n _ => ?_
  simp only [zsp, zSs, zS, zE, zEs, zT, zBoVs, zBoTs, zA, zIfs, zI, zO, zG, zGs, zsCons, zsNil, zsIf, zsRet, zsRetN, zsExpr, zsAsg, zsPar, zsFor, zsSet, zsSetL, zsPass, zsBreak, zsCont, zsFrz, zEnds, zstart, z1, z2, zVar, zGet, zCst, zChain_eq, onB_bl, tOf, zNotT, zBoT, zBoV, zIf, zNil, zCons, zTup, zPart, zNoPart, zSl, zSlL, zCB, zCBL, zBF, zLM, LM.ty, IC.pv, zAbs, zList, zIsi, zVal, zRng1, zRng2, zEnum, Zz.gNm, Zz.gNil, Zz.gCons, Zz.gTup, zCall, zMt, zAppend, zExtend, zInsert, zPop, zReverse, zRev, zDct0, zDctK, zDctT, zYes, zLc, zwipe, zCmp, zEq, zIs, isNonP, List.map_cons, List.map_nil, List.cons_append, List.nil_append, List.replicate_succ, List.replicate_zero, List.length_cons, List.length_nil, List.set_cons_zero, List.set_cons_succ, List.getElem?_cons_zero, List.getElem?_cons_succ, Option.join_some, Nat.reduceAdd, Nat.reduceSub, Nat.zero_add, isiB, Bool.not_eq_true', decide_eq_false_iff_not, decide_eq_true_eq,  tyP_non, isDct_non, rs_non, tyP_bl, isDct_bl, rs_bl, tyP_int, isDct_int, rs_int, tyP_str, isDct_str, rs_str, tyP_tup, isDct_tup, rs_tup, tyP_lst, isDct_lst, rs_lst, tyP_rol, isDct_rol, rs_rol, tyP_dct, isDct_dct, rs_dct, asL_lst, asL_rol, asS_lst, asS_rol, asS_tup, asW_lst, asT_tup, asL_mset, asS_mset, asW_mset, refL_mset, isDct_mset, tyP_mset, rs_mset, Option.some.injEq, exists_eq_left', true_and, and_true, Bool.not_true, Bool.not_false, Bool.false_eq_true, if_true, if_false, ite_true, ite_false, String.reduceBEq, Bool.or_false, Bool.or_true, Bool.false_or, Bool.true_or, Bool.and_false, Bool.and_true, Bool.true_and, Bool.false_and, reduceIte, PV.int.injEq, exists_const, PV.tup.injEq, PV.lst.injEq, PV.ref.injEq, PV.ty.injEq, zIn, List.all_cons, List.all_nil, List.any_cons, List.any_nil, atP_0, atP_1, atP_2, flat_ints, Zz.any_ints, Nat.zero_le, IC.v, Nat.reduceLeDiff, forall_const, mset_mset, not_true_eq_false, not_false_eq_true, cpow9, pow9, cpow18, pow18, cpow30, pow30, ex2, Bool.true_eq_false, Int.cast_ofNat_Int, Int.ofNat_eq_natCast, flatP_non, flatP_bl, flatP_int, flatP_str, flatP_tup, flatP_lst, flatP_dct, eqF_ss, eqF_ii, eqF_bb, zB_Add_i, zB_Sub_i, zB_Mult_i, zB_FloorDiv_i, zB_Mod_i, zB_Pow_i, zB_BitAnd_i, zB_BitOr_i, zB_Add_s, zB_Add_t, zB_Add_l, zB_Mul_l, zIx_tup, zIx_lst, zIx_rol, zIx_str, zIx_mset, zLen_tup, zLen_lst, zLen_rol, zLen_str, zLen_mset, zInt_i, zInt_b, zTuple_t, zTuple_l, zTuple_m, zMax_ii, zMin_ii, zNeg_i, zNotV_b, zAllAny_l, wL_mset, szl0, szl1, szl2, szl3, szl4, szl5, szl6, szl7, szl8, szl9, szl10, szl11, szl12, szl13, szl14, szl15, szl16, szl17, szl18, szl19, szl20, szl21, szl22, szl23, szl24, szl25, szl26, szl27, szl28, szl29, szl30, szl31, szl32, szl33, szl34, szl35, szl36, szl37, szl38, szl39, szl40, szl41, szl42, szl43, szl44, szl45, szl46, szl47, szl48, szl49, szl50, szl51, szl52, szl53, szl54, szl55, szl56, szl57, szl58, szl59, szl60, szl61, szl62, szl63, szl64, szl65, szl66, szl67, szl68, szl69, frzV_ref, zfrz, Option.map_some, Option.map_none, frzV_non, frzV_bl, frzV_int, frzV_str, frzV_tup, frzV_lst, frzV_rol, frzV_dct]
  have h0 := Int.emod_nonneg n (show (6 : Int) ≠ 0 by decide)
  have h1 := Int.emod_lt_of_pos n (show (0 : Int) < 6 by decide)
  have hs : (6 : Int) ≤ (sizeLine : Int) := by decide
  refine ⟨by decide, by omega, by omega, lc_all (fun _ y => atom y = true) _ (fun x hx N R hR => ?_) fun ys hys => ?_⟩
  · obtain ⟨j, hj, rfl⟩ := rngP_mem hx
    simp only [zsp, zSs, zS, zE, zEs, zT, zBoVs, zBoTs, zA, zIfs, zI, zO, zG, zGs, zsCons, zsNil, zsIf, zsRet, zsRetN, zsExpr, zsAsg, zsPar, zsFor, zsSet, zsSetL, zsPass, zsBreak, zsCont, zsFrz, zEnds, zstart, z1, z2, zVar, zGet, zCst, zChain_eq, onB_bl, tOf, zNotT, zBoT, zBoV, zIf, zNil, zCons, zTup, zPart, zNoPart, zSl, zSlL, zCB, zCBL, zBF, zLM, LM.ty, IC.pv, zAbs, zList, zIsi, zVal, zRng1, zRng2, zEnum, Zz.gNm, Zz.gNil, Zz.gCons, Zz.gTup, zCall, zMt, zAppend, zExtend, zInsert, zPop, zReverse, zRev, zDct0, zDctK, zDctT, zYes, zLc, zwipe, zCmp, zEq, zIs, isNonP, List.map_cons, List.map_nil, List.cons_append, List.nil_append, List.replicate_succ, List.replicate_zero, List.length_cons, List.length_nil, List.set_cons_zero, List.set_cons_succ, List.getElem?_cons_zero, List.getElem?_cons_succ, Option.join_some, Nat.reduceAdd, Nat.reduceSub, Nat.zero_add, isiB, Bool.not_eq_true', decide_eq_false_iff_not, decide_eq_true_eq,  tyP_non, isDct_non, rs_non, tyP_bl, isDct_bl, rs_bl, tyP_int, isDct_int, rs_int, tyP_str, isDct_str, rs_str, tyP_tup, isDct_tup, rs_tup, tyP_lst, isDct_lst, rs_lst, tyP_rol, isDct_rol, rs_rol, tyP_dct, isDct_dct, rs_dct, asL_lst, asL_rol, asS_lst, asS_rol, asS_tup, asW_lst, asT_tup, asL_mset, asS_mset, asW_mset, refL_mset, isDct_mset, tyP_mset, rs_mset, Option.some.injEq, exists_eq_left', true_and, and_true, Bool.not_true, Bool.not_false, Bool.false_eq_true, if_true, if_false, ite_true, ite_false, String.reduceBEq, Bool.or_false, Bool.or_true, Bool.false_or, Bool.true_or, Bool.and_false, Bool.and_true, Bool.true_and, Bool.false_and, reduceIte, PV.int.injEq, exists_const, PV.tup.injEq, PV.lst.injEq, PV.ref.injEq, PV.ty.injEq, zIn, List.all_cons, List.all_nil, List.any_cons, List.any_nil, atP_0, atP_1, atP_2, flat_ints, Zz.any_ints, Nat.zero_le, IC.v, Nat.reduceLeDiff, forall_const, mset_mset, not_true_eq_false, not_false_eq_true, cpow9, pow9, cpow18, pow18, cpow30, pow30, ex2, Bool.true_eq_false, Int.cast_ofNat_Int, Int.ofNat_eq_natCast, flatP_non, flatP_bl, flatP_int, flatP_str, flatP_tup, flatP_lst, flatP_dct, eqF_ss, eqF_ii, eqF_bb, zB_Add_i, zB_Sub_i, zB_Mult_i, zB_FloorDiv_i, zB_Mod_i, zB_Pow_i, zB_BitAnd_i, zB_BitOr_i, zB_Add_s, zB_Add_t, zB_Add_l, zB_Mul_l, zIx_tup, zIx_lst, zIx_rol, zIx_str, zIx_mset, zLen_tup, zLen_lst, zLen_rol, zLen_str, zLen_mset, zInt_i, zInt_b, zTuple_t, zTuple_l, zTuple_m, zMax_ii, zMin_ii, zNeg_i, zNotV_b, zAllAny_l, wL_mset, szl0, szl1, szl2, szl3, szl4, szl5, szl6, szl7, szl8, szl9, szl10, szl11, szl12, szl13, szl14, szl15, szl16, szl17, szl18, szl19, szl20, szl21, szl22, szl23, szl24, szl25, szl26, szl27, szl28, szl29, szl30, szl31, szl32, szl33, szl34, szl35, szl36, szl37, szl38, szl39, szl40, szl41, szl42, szl43, szl44, szl45, szl46, szl47, szl48, szl49, szl50, szl51, szl52, szl53, szl54, szl55, szl56, szl57, szl58, szl59, szl60, szl61, szl62, szl63, szl64, szl65, szl66, szl67, szl68, szl69, frzV_ref, zfrz, Option.map_some, Option.map_none, frzV_non, frzV_bl, frzV_int, frzV_str, frzV_tup, frzV_lst, frzV_rol, frzV_dct]
    refine ⟨mulW (by omega) (by omega) (by omega) (by omega), atP_int hn (by omega) (by omega) fun a ha => ⟨mulW (by omega) (by omega) (by omega) (by omega), atP_int hn (by omega) (by omega) fun b hb => sp_L_key E ha hb hR⟩⟩
  · have hy := forall2_len hys
    rw [rngP_len] at hy
    have hat : ∀ y ∈ ys, atom y = true := forall2_mem hys (fun _ _ _ h => h)
    refine ⟨Nat.le_trans (m := 6) (by omega) (by decide), fun p hp => atP_int hn (by decide) (by omega) fun a ha => ?_⟩
    simp only [mdel_mset hp, zsp, zSs, zS, zE, zEs, zT, zBoVs, zBoTs, zA, zIfs, zI, zO, zG, zGs, zsCons, zsNil, zsIf, zsRet, zsRetN, zsExpr, zsAsg, zsPar, zsFor, zsSet, zsSetL, zsPass, zsBreak, zsCont, zsFrz, zEnds, zstart, z1, z2, zVar, zGet, zCst, zChain_eq, onB_bl, tOf, zNotT, zBoT, zBoV, zIf, zNil, zCons, zTup, zPart, zNoPart, zSl, zSlL, zCB, zCBL, zBF, zLM, LM.ty, IC.pv, zAbs, zList, zIsi, zVal, zRng1, zRng2, zEnum, Zz.gNm, Zz.gNil, Zz.gCons, Zz.gTup, zCall, zMt, zAppend, zExtend, zInsert, zPop, zReverse, zRev, zDct0, zDctK, zDctT, zYes, zLc, zwipe, zCmp, zEq, zIs, isNonP, List.map_cons, List.map_nil, List.cons_append, List.nil_append, List.replicate_succ, List.replicate_zero, List.length_cons, List.length_nil, List.set_cons_zero, List.set_cons_succ, List.getElem?_cons_zero, List.getElem?_cons_succ, Option.join_some, Nat.reduceAdd, Nat.reduceSub, Nat.zero_add, isiB, Bool.not_eq_true', decide_eq_false_iff_not, decide_eq_true_eq,  tyP_non, isDct_non, rs_non, tyP_bl, isDct_bl, rs_bl, tyP_int, isDct_int, rs_int, tyP_str, isDct_str, rs_str, tyP_tup, isDct_tup, rs_tup, tyP_lst, isDct_lst, rs_lst, tyP_rol, isDct_rol, rs_rol, tyP_dct, isDct_dct, rs_dct, asL_lst, asL_rol, asS_lst, asS_rol, asS_tup, asW_lst, asT_tup, asL_mset, asS_mset, asW_mset, refL_mset, isDct_mset, tyP_mset, rs_mset, Option.some.injEq, exists_eq_left', true_and, and_true, Bool.not_true, Bool.not_false, Bool.false_eq_true, if_true, if_false, ite_true, ite_false, String.reduceBEq, Bool.or_false, Bool.or_true, Bool.false_or, Bool.true_or, Bool.and_false, Bool.and_true, Bool.true_and, Bool.false_and, reduceIte, PV.int.injEq, exists_const, PV.tup.injEq, PV.lst.injEq, PV.ref.injEq, PV.ty.injEq, zIn, List.all_cons, List.all_nil, List.any_cons, List.any_nil, atP_0, atP_1, atP_2, flat_ints, Zz.any_ints, Nat.zero_le, IC.v, Nat.reduceLeDiff, forall_const, mset_mset, not_true_eq_false, not_false_eq_true, cpow9, pow9, cpow18, pow18, cpow30, pow30, ex2, Bool.true_eq_false, Int.cast_ofNat_Int, Int.ofNat_eq_natCast, flatP_non, flatP_bl, flatP_int, flatP_str, flatP_tup, flatP_lst, flatP_dct, eqF_ss, eqF_ii, eqF_bb, zB_Add_i, zB_Sub_i, zB_Mult_i, zB_FloorDiv_i, zB_Mod_i, zB_Pow_i, zB_BitAnd_i, zB_BitOr_i, zB_Add_s, zB_Add_t, zB_Add_l, zB_Mul_l, zIx_tup, zIx_lst, zIx_rol, zIx_str, zIx_mset, zLen_tup, zLen_lst, zLen_rol, zLen_str, zLen_mset, zInt_i, zInt_b, zTuple_t, zTuple_l, zTuple_m, zMax_ii, zMin_ii, zNeg_i, zNotV_b, zAllAny_l, wL_mset, szl0, szl1, szl2, szl3, szl4, szl5, szl6, szl7, szl8, szl9, szl10, szl11, szl12, szl13, szl14, szl15, szl16, szl17, szl18, szl19, szl20, szl21, szl22, szl23, szl24, szl25, szl26, szl27, szl28, szl29, szl30, szl31, szl32, szl33, szl34, szl35, szl36, szl37, szl38, szl39, szl40, szl41, szl42, szl43, szl44, szl45, szl46, szl47, szl48, szl49, szl50, szl51, szl52, szl53, szl54, szl55, szl56, szl57, szl58, szl59, szl60, szl61, szl62, szl63, szl64, szl65, szl66, szl67, szl68, szl69, frzV_ref, zfrz, Option.map_some, Option.map_none, frzV_non, frzV_bl, frzV_int, frzV_str, frzV_tup, frzV_lst, frzV_rol, frzV_dct]
    have fin : ∀ zs : List PV, pls zs = true → zs.length ≤ 6 → atP (ns.map .int) 1 fun y => ZCall T (k + 2) "_law_within" [.lst zs, y] M (fun x M => ∃ M', subM M' M ∧ Q x M') fun C fs M2 => X C fs M2 := fun zs hz hzl =>
      atP_int hn (by decide) (by omega) fun b _ => sp_L_within E hz (by omega) fun v hv => ret_same (q v hv)
    have hys2 : pls ys = true := pls_all fun y hy => atom_pl (hat y hy)
    have hyl : ys.length ≤ 6 := by omega
    refine ⟨by decide, ite_any (fun _ => ⟨okD_gd (n := 1) (by unfold gd; exact gds_all fun y hy => atom_gd (hat y hy)) (by decide), okD_nil, ite_any (fun hne => ?_) fun _ => fin ys hys2 hyl⟩) fun _ => fin ys hys2 hyl⟩
    refine atP_int hn (by decide) (by omega) fun c hc => atP_int hn (by decide) (by omega) fun d hd => sp_L_other_key E hc hd fun w hw => ?_
    refine atP_int hn (by decide) (by omega) fun e _ => ?_
    have hpos : 0 < ys.length := by
      cases ys with
      | nil => rw [eqv_nil] at hne; cases hne
      | cons a l => simp
    simp only [zsp, zSs, zS, zE, zEs, zT, zBoVs, zBoTs, zA, zIfs, zI, zO, zG, zGs, zsCons, zsNil, zsIf, zsRet, zsRetN, zsExpr, zsAsg, zsPar, zsFor, zsSet, zsSetL, zsPass, zsBreak, zsCont, zsFrz, zEnds, zstart, z1, z2, zVar, zGet, zCst, zChain_eq, onB_bl, tOf, zNotT, zBoT, zBoV, zIf, zNil, zCons, zTup, zPart, zNoPart, zSl, zSlL, zCB, zCBL, zBF, zLM, LM.ty, IC.pv, zAbs, zList, zIsi, zVal, zRng1, zRng2, zEnum, Zz.gNm, Zz.gNil, Zz.gCons, Zz.gTup, zCall, zMt, zAppend, zExtend, zInsert, zPop, zReverse, zRev, zDct0, zDctK, zDctT, zYes, zLc, zwipe, zCmp, zEq, zIs, isNonP, List.map_cons, List.map_nil, List.cons_append, List.nil_append, List.replicate_succ, List.replicate_zero, List.length_cons, List.length_nil, List.set_cons_zero, List.set_cons_succ, List.getElem?_cons_zero, List.getElem?_cons_succ, Option.join_some, Nat.reduceAdd, Nat.reduceSub, Nat.zero_add, isiB, Bool.not_eq_true', decide_eq_false_iff_not, decide_eq_true_eq,  tyP_non, isDct_non, rs_non, tyP_bl, isDct_bl, rs_bl, tyP_int, isDct_int, rs_int, tyP_str, isDct_str, rs_str, tyP_tup, isDct_tup, rs_tup, tyP_lst, isDct_lst, rs_lst, tyP_rol, isDct_rol, rs_rol, tyP_dct, isDct_dct, rs_dct, asL_lst, asL_rol, asS_lst, asS_rol, asS_tup, asW_lst, asT_tup, asL_mset, asS_mset, asW_mset, refL_mset, isDct_mset, tyP_mset, rs_mset, Option.some.injEq, exists_eq_left', true_and, and_true, Bool.not_true, Bool.not_false, Bool.false_eq_true, if_true, if_false, ite_true, ite_false, String.reduceBEq, Bool.or_false, Bool.or_true, Bool.false_or, Bool.true_or, Bool.and_false, Bool.and_true, Bool.true_and, Bool.false_and, reduceIte, PV.int.injEq, exists_const, PV.tup.injEq, PV.lst.injEq, PV.ref.injEq, PV.ty.injEq, zIn, List.all_cons, List.all_nil, List.any_cons, List.any_nil, atP_0, atP_1, atP_2, flat_ints, Zz.any_ints, Nat.zero_le, IC.v, Nat.reduceLeDiff, forall_const, mset_mset, not_true_eq_false, not_false_eq_true, cpow9, pow9, cpow18, pow18, cpow30, pow30, ex2, Bool.true_eq_false, Int.cast_ofNat_Int, Int.ofNat_eq_natCast, flatP_non, flatP_bl, flatP_int, flatP_str, flatP_tup, flatP_lst, flatP_dct, eqF_ss, eqF_ii, eqF_bb, zB_Add_i, zB_Sub_i, zB_Mult_i, zB_FloorDiv_i, zB_Mod_i, zB_Pow_i, zB_BitAnd_i, zB_BitOr_i, zB_Add_s, zB_Add_t, zB_Add_l, zB_Mul_l, zIx_tup, zIx_lst, zIx_rol, zIx_str, zIx_mset, zLen_tup, zLen_lst, zLen_rol, zLen_str, zLen_mset, zInt_i, zInt_b, zTuple_t, zTuple_l, zTuple_m, zMax_ii, zMin_ii, zNeg_i, zNotV_b, zAllAny_l, wL_mset, szl0, szl1, szl2, szl3, szl4, szl5, szl6, szl7, szl8, szl9, szl10, szl11, szl12, szl13, szl14, szl15, szl16, szl17, szl18, szl19, szl20, szl21, szl22, szl23, szl24, szl25, szl26, szl27, szl28, szl29, szl30, szl31, szl32, szl33, szl34, szl35, szl36, szl37, szl38, szl39, szl40, szl41, szl42, szl43, szl44, szl45, szl46, szl47, szl48, szl49, szl50, szl51, szl52, szl53, szl54, szl55, szl56, szl57, szl58, szl59, szl60, szl61, szl62, szl63, szl64, szl65, szl66, szl67, szl68, szl69, frzV_ref, zfrz, Option.map_some, Option.map_none, frzV_non, frzV_bl, frzV_int, frzV_str, frzV_tup, frzV_lst, frzV_rol, frzV_dct]
    refine ⟨divW (by decide) (by decide), by omega, dPut_no (Int.emod_nonneg _ (by omega)) (Int.emod_lt_of_pos _ (by omega)) fun j hj => ?_⟩
    simp only [mdel_mset hp, zsp, zSs, zS, zE, zEs, zT, zBoVs, zBoTs, zA, zIfs, zI, zO, zG, zGs, zsCons, zsNil, zsIf, zsRet, zsRetN, zsExpr, zsAsg, zsPar, zsFor, zsSet, zsSetL, zsPass, zsBreak, zsCont, zsFrz, zEnds, zstart, z1, z2, zVar, zGet, zCst, zChain_eq, onB_bl, tOf, zNotT, zBoT, zBoV, zIf, zNil, zCons, zTup, zPart, zNoPart, zSl, zSlL, zCB, zCBL, zBF, zLM, LM.ty, IC.pv, zAbs, zList, zIsi, zVal, zRng1, zRng2, zEnum, Zz.gNm, Zz.gNil, Zz.gCons, Zz.gTup, zCall, zMt, zAppend, zExtend, zInsert, zPop, zReverse, zRev, zDct0, zDctK, zDctT, zYes, zLc, zwipe, zCmp, zEq, zIs, isNonP, List.map_cons, List.map_nil, List.cons_append, List.nil_append, List.replicate_succ, List.replicate_zero, List.length_cons, List.length_nil, List.set_cons_zero, List.set_cons_succ, List.getElem?_cons_zero, List.getElem?_cons_succ, Option.join_some, Nat.reduceAdd, Nat.reduceSub, Nat.zero_add, isiB, Bool.not_eq_true', decide_eq_false_iff_not, decide_eq_true_eq,  tyP_non, isDct_non, rs_non, tyP_bl, isDct_bl, rs_bl, tyP_int, isDct_int, rs_int, tyP_str, isDct_str, rs_str, tyP_tup, isDct_tup, rs_tup, tyP_lst, isDct_lst, rs_lst, tyP_rol, isDct_rol, rs_rol, tyP_dct, isDct_dct, rs_dct, asL_lst, asL_rol, asS_lst, asS_rol, asS_tup, asW_lst, asT_tup, asL_mset, asS_mset, asW_mset, refL_mset, isDct_mset, tyP_mset, rs_mset, Option.some.injEq, exists_eq_left', true_and, and_true, Bool.not_true, Bool.not_false, Bool.false_eq_true, if_true, if_false, ite_true, ite_false, String.reduceBEq, Bool.or_false, Bool.or_true, Bool.false_or, Bool.true_or, Bool.and_false, Bool.and_true, Bool.true_and, Bool.false_and, reduceIte, PV.int.injEq, exists_const, PV.tup.injEq, PV.lst.injEq, PV.ref.injEq, PV.ty.injEq, zIn, List.all_cons, List.all_nil, List.any_cons, List.any_nil, atP_0, atP_1, atP_2, flat_ints, Zz.any_ints, Nat.zero_le, IC.v, Nat.reduceLeDiff, forall_const, mset_mset, not_true_eq_false, not_false_eq_true, cpow9, pow9, cpow18, pow18, cpow30, pow30, ex2, Bool.true_eq_false, Int.cast_ofNat_Int, Int.ofNat_eq_natCast, flatP_non, flatP_bl, flatP_int, flatP_str, flatP_tup, flatP_lst, flatP_dct, eqF_ss, eqF_ii, eqF_bb, zB_Add_i, zB_Sub_i, zB_Mult_i, zB_FloorDiv_i, zB_Mod_i, zB_Pow_i, zB_BitAnd_i, zB_BitOr_i, zB_Add_s, zB_Add_t, zB_Add_l, zB_Mul_l, zIx_tup, zIx_lst, zIx_rol, zIx_str, zIx_mset, zLen_tup, zLen_lst, zLen_rol, zLen_str, zLen_mset, zInt_i, zInt_b, zTuple_t, zTuple_l, zTuple_m, zMax_ii, zMin_ii, zNeg_i, zNotV_b, zAllAny_l, wL_mset, szl0, szl1, szl2, szl3, szl4, szl5, szl6, szl7, szl8, szl9, szl10, szl11, szl12, szl13, szl14, szl15, szl16, szl17, szl18, szl19, szl20, szl21, szl22, szl23, szl24, szl25, szl26, szl27, szl28, szl29, szl30, szl31, szl32, szl33, szl34, szl35, szl36, szl37, szl38, szl39, szl40, szl41, szl42, szl43, szl44, szl45, szl46, szl47, szl48, szl49, szl50, szl51, szl52, szl53, szl54, szl55, szl56, szl57, szl58, szl59, szl60, szl61, szl62, szl63, szl64, szl65, szl66, szl67, szl68, szl69, frzV_ref, zfrz, Option.map_some, Option.map_none, frzV_non, frzV_bl, frzV_int, frzV_str, frzV_tup, frzV_lst, frzV_rol, frzV_dct]
    refine fin _ (pls_all fun y hy => ?_) (by rw [List.length_set]; exact hyl)
    rcases List.mem_or_eq_of_mem_set hy with h | h
    · exact atom_pl (hat y h)
    · subst h; exact hw
theorem sp_L_some_row {ns : List Int} {gs : List PV} {od : PV} (hn : ∀ n ∈ ns, Bd n) (hl : 3 ≤ ns.length) (hg : gs.length = 3) (hgp : pls gs = true) (ho : pl od = true) (q : ∀ v, pl v = true → Q v M) : ZCall T (k + 3) "_law_some_row" [.lst (ns.map .int), .lst gs, od] M Q X := by
  apply call_L_some_row E rfl
  simp only [ir_L_some_row, N_L_some_row, zsp, zSs, zS, zE, zEs, zT, zBoVs, zBoTs, zA, zIfs, zI, zO, zG, zGs, zsCons, zsNil, zsIf, zsRet, zsRetN, zsExpr, zsAsg, zsPar, zsFor, zsSet, zsSetL, zsPass, zsBreak, zsCont, zsFrz, zEnds, zstart, z1, z2, zVar, zGet, zCst, zChain_eq, onB_bl, tOf, zNotT, zBoT, zBoV, zIf, zNil, zCons, zTup, zPart, zNoPart, zSl, zSlL, zCB, zCBL, zBF, zLM, LM.ty, IC.pv, zAbs, zList, zIsi, zVal, zRng1, zRng2, zEnum, Zz.gNm, Zz.gNil, Zz.gCons, Zz.gTup, zCall, zMt, zAppend, zExtend, zInsert, zPop, zReverse, zRev, zDct0, zDctK, zDctT, zYes, zLc, zwipe, zCmp, zEq, zIs, isNonP, List.map_cons, List.map_nil, List.cons_append, List.nil_append, List.replicate_succ, List.replicate_zero, List.length_cons, List.length_nil, List.set_cons_zero, List.set_cons_succ, List.getElem?_cons_zero, List.getElem?_cons_succ, Option.join_some, Nat.reduceAdd, Nat.reduceSub, Nat.zero_add, isiB, Bool.not_eq_true', decide_eq_false_iff_not, decide_eq_true_eq,  tyP_non, isDct_non, rs_non, tyP_bl, isDct_bl, rs_bl, tyP_int, isDct_int, rs_int, tyP_str, isDct_str, rs_str, tyP_tup, isDct_tup, rs_tup, tyP_lst, isDct_lst, rs_lst, tyP_rol, isDct_rol, rs_rol, tyP_dct, isDct_dct, rs_dct, asL_lst, asL_rol, asS_lst, asS_rol, asS_tup, asW_lst, asT_tup, asL_mset, asS_mset, asW_mset, refL_mset, isDct_mset, tyP_mset, rs_mset, Option.some.injEq, exists_eq_left', true_and, and_true, Bool.not_true, Bool.not_false, Bool.false_eq_true, if_true, if_false, ite_true, ite_false, String.reduceBEq, Bool.or_false, Bool.or_true, Bool.false_or, Bool.true_or, Bool.and_false, Bool.and_true, Bool.true_and, Bool.false_and, reduceIte, PV.int.injEq, exists_const, PV.tup.injEq, PV.lst.injEq, PV.ref.injEq, PV.ty.injEq, zIn, List.all_cons, List.all_nil, List.any_cons, List.any_nil, atP_0, atP_1, atP_2, flat_ints, Zz.any_ints, Nat.zero_le, IC.v, Nat.reduceLeDiff, forall_const, mset_mset, not_true_eq_false, not_false_eq_true, cpow9, pow9, cpow18, pow18, cpow30, pow30, ex2, Bool.true_eq_false, Int.cast_ofNat_Int, Int.ofNat_eq_natCast, flatP_non, flatP_bl, flatP_int, flatP_str, flatP_tup, flatP_lst, flatP_dct, eqF_ss, eqF_ii, eqF_bb, zB_Add_i, zB_Sub_i, zB_Mult_i, zB_FloorDiv_i, zB_Mod_i, zB_Pow_i, zB_BitAnd_i, zB_BitOr_i, zB_Add_s, zB_Add_t, zB_Add_l, zB_Mul_l, zIx_tup, zIx_lst, zIx_rol, zIx_str, zIx_mset, zLen_tup, zLen_lst, zLen_rol, zLen_str, zLen_mset, zInt_i, zInt_b, zTuple_t, zTuple_l, zTuple_m, zMax_ii, zMin_ii, zNeg_i, zNotV_b, zAllAny_l, wL_mset, szl0, szl1, szl2, szl3, szl4, szl5, szl6, szl7, szl8, szl9, szl10, szl11, szl12, szl13, szl14, szl15, szl16, szl17, szl18, szl19, szl20, szl21, szl22, szl23, szl24, szl25, szl26, szl27, szl28, szl29, szl30, szl31, szl32, szl33, szl34, szl35, szl36, szl37, szl38, szl39, szl40, szl41, szl42, szl43, szl44, szl45, szl46, szl47, szl48, szl49, szl50, szl51, szl52, szl53, szl54, szl55, szl56, szl57, szl58, szl59, szl60, szl61, szl62, szl63, szl64, szl65, szl66, szl67, szl68, szl69, frzV_ref, zfrz, Option.map_some, Option.map_none, frzV_non, frzV_bl, frzV_int, frzV_str, frzV_tup, frzV_lst, frzV_rol, frzV_dct]
  refine atP_int hn (by decide) (by omega) fun a _ => ?_
  simp only [zsp, zSs, zS, zE, zEs, zT, zBoVs, zBoTs, zA, zIfs, zI, zO, zG, zGs, zsCons, zsNil, zsIf, zsRet, zsRetN, zsExpr, zsAsg, zsPar, zsFor, zsSet, zsSetL, zsPass, zsBreak, zsCont, zsFrz, zEnds, zstart, z1, z2, zVar, zGet, zCst, zChain_eq, onB_bl, tOf, zNotT, zBoT, zBoV, zIf, zNil, zCons, zTup, zPart, zNoPart, zSl, zSlL, zCB, zCBL, zBF, zLM, LM.ty, IC.pv, zAbs, zList, zIsi, zVal, zRng1, zRng2, zEnum, Zz.gNm, Zz.gNil, Zz.gCons, Zz.gTup, zCall, zMt, zAppend, zExtend, zInsert, zPop, zReverse, zRev, zDct0, zDctK, zDctT, zYes, zLc, zwipe, zCmp, zEq, zIs, isNonP, List.map_cons, List.map_nil, List.cons_append, List.nil_append, List.replicate_succ, List.replicate_zero, List.length_cons, List.length_nil, List.set_cons_zero, List.set_cons_succ, List.getElem?_cons_zero, List.getElem?_cons_succ, Option.join_some, Nat.reduceAdd, Nat.reduceSub, Nat.zero_add, isiB, Bool.not_eq_true', decide_eq_false_iff_not, decide_eq_true_eq,  tyP_non, isDct_non, rs_non, tyP_bl, isDct_bl, rs_bl, tyP_int, isDct_int, rs_int, tyP_str, isDct_str, rs_str, tyP_tup, isDct_tup, rs_tup, tyP_lst, isDct_lst, rs_lst, tyP_rol, isDct_rol, rs_rol, tyP_dct, isDct_dct, rs_dct, asL_lst, asL_rol, asS_lst, asS_rol, asS_tup, asW_lst, asT_tup, asL_mset, asS_mset, asW_mset, refL_mset, isDct_mset, tyP_mset, rs_mset, Option.some.injEq, exists_eq_left', true_and, and_true, Bool.not_true, Bool.not_false, Bool.false_eq_true, if_true, if_false, ite_true, ite_false, String.reduceBEq, Bool.or_false, Bool.or_true, Bool.false_or, Bool.true_or, Bool.and_false, Bool.and_true, Bool.true_and, Bool.false_and, reduceIte, PV.int.injEq, exists_const, PV.tup.injEq, PV.lst.injEq, PV.ref.injEq, PV.ty.injEq, zIn, List.all_cons, List.all_nil, List.any_cons, List.any_nil, atP_0, atP_1, atP_2, flat_ints, Zz.any_ints, Nat.zero_le, IC.v, Nat.reduceLeDiff, forall_const, mset_mset, not_true_eq_false, not_false_eq_true, cpow9, pow9, cpow18, pow18, cpow30, pow30, ex2, Bool.true_eq_false, Int.cast_ofNat_Int, Int.ofNat_eq_natCast, flatP_non, flatP_bl, flatP_int, flatP_str, flatP_tup, flatP_lst, flatP_dct, eqF_ss, eqF_ii, eqF_bb, zB_Add_i, zB_Sub_i, zB_Mult_i, zB_FloorDiv_i, zB_Mod_i, zB_Pow_i, zB_BitAnd_i, zB_BitOr_i, zB_Add_s, zB_Add_t, zB_Add_l, zB_Mul_l, zIx_tup, zIx_lst, zIx_rol, zIx_str, zIx_mset, zLen_tup, zLen_lst, zLen_rol, zLen_str, zLen_mset, zInt_i, zInt_b, zTuple_t, zTuple_l, zTuple_m, zMax_ii, zMin_ii, zNeg_i, zNotV_b, zAllAny_l, wL_mset, szl0, szl1, szl2, szl3, szl4, szl5, szl6, szl7, szl8, szl9, szl10, szl11, szl12, szl13, szl14, szl15, szl16, szl17, szl18, szl19, szl20, szl21, szl22, szl23, szl24, szl25, szl26, szl27, szl28, szl29, szl30, szl31, szl32, szl33, szl34, szl35, szl36, szl37, szl38, szl39, szl40, szl41, szl42, szl43, szl44, szl45, szl46, szl47, szl48, szl49, szl50, szl51, szl52, szl53, szl54, szl55, szl56, szl57, szl58, szl59, szl60, szl61, szl62, szl63, szl64, szl65, szl66, szl67, szl68, szl69, frzV_ref, zfrz, Option.map_some, Option.map_none, frzV_non, frzV_bl, frzV_int, frzV_str, frzV_tup, frzV_lst, frzV_rol, frzV_dct]
  refine ⟨divW (by decide) (by decide), by decide, atP_int hn (by decide) (by omega) fun a _ => ?_⟩
  simp only [zsp, zSs, zS, zE, zEs, zT, zBoVs, zBoTs, zA, zIfs, zI, zO, zG, zGs, zsCons, zsNil, zsIf, zsRet, zsRetN, zsExpr, zsAsg, zsPar, zsFor, zsSet, zsSetL, zsPass, zsBreak, zsCont, zsFrz, zEnds, zstart, z1, z2, zVar, zGet, zCst, zChain_eq, onB_bl, tOf, zNotT, zBoT, zBoV, zIf, zNil, zCons, zTup, zPart, zNoPart, zSl, zSlL, zCB, zCBL, zBF, zLM, LM.ty, IC.pv, zAbs, zList, zIsi, zVal, zRng1, zRng2, zEnum, Zz.gNm, Zz.gNil, Zz.gCons, Zz.gTup, zCall, zMt, zAppend, zExtend, zInsert, zPop, zReverse, zRev, zDct0, zDctK, zDctT, zYes, zLc, zwipe, zCmp, zEq, zIs, isNonP, List.map_cons, List.map_nil, List.cons_append, List.nil_append, List.replicate_succ, List.replicate_zero, List.length_cons, List.length_nil, List.set_cons_zero, List.set_cons_succ, List.getElem?_cons_zero, List.getElem?_cons_succ, Option.join_some, Nat.reduceAdd, Nat.reduceSub, Nat.zero_add, isiB, Bool.not_eq_true', decide_eq_false_iff_not, decide_eq_true_eq,  tyP_non, isDct_non, rs_non, tyP_bl, isDct_bl, rs_bl, tyP_int, isDct_int, rs_int, tyP_str, isDct_str, rs_str, tyP_tup, isDct_tup, rs_tup, tyP_lst, isDct_lst, rs_lst, tyP_rol, isDct_rol, rs_rol, tyP_dct, isDct_dct, rs_dct, asL_lst, asL_rol, asS_lst, asS_rol, asS_tup, asW_lst, asT_tup, asL_mset, asS_mset, asW_mset, refL_mset, isDct_mset, tyP_mset, rs_mset, Option.some.injEq, exists_eq_left', true_and, and_true, Bool.not_true, Bool.not_false, Bool.false_eq_true, if_true, if_false, ite_true, ite_false, String.reduceBEq, Bool.or_false, Bool.or_true, Bool.false_or, Bool.true_or, Bool.and_false, Bool.and_true, Bool.true_and, Bool.false_and, reduceIte, PV.int.injEq, exists_const, PV.tup.injEq, PV.lst.injEq, PV.ref.injEq, PV.ty.injEq, zIn, List.all_cons, List.all_nil, List.any_cons, List.any_nil, atP_0, atP_1, atP_2, flat_ints, Zz.any_ints, Nat.zero_le, IC.v, Nat.reduceLeDiff, forall_const, mset_mset, not_true_eq_false, not_false_eq_true, cpow9, pow9, cpow18, pow18, cpow30, pow30, ex2, Bool.true_eq_false, Int.cast_ofNat_Int, Int.ofNat_eq_natCast, flatP_non, flatP_bl, flatP_int, flatP_str, flatP_tup, flatP_lst, flatP_dct, eqF_ss, eqF_ii, eqF_bb, zB_Add_i, zB_Sub_i, zB_Mult_i, zB_FloorDiv_i, zB_Mod_i, zB_Pow_i, zB_BitAnd_i, zB_BitOr_i, zB_Add_s, zB_Add_t, zB_Add_l, zB_Mul_l, zIx_tup, zIx_lst, zIx_rol, zIx_str, zIx_mset, zLen_tup, zLen_lst, zLen_rol, zLen_str, zLen_mset, zInt_i, zInt_b, zTuple_t, zTuple_l, zTuple_m, zMax_ii, zMin_ii, zNeg_i, zNotV_b, zAllAny_l, wL_mset, szl0, szl1, szl2, szl3, szl4, szl5, szl6, szl7, szl8, szl9, szl10, szl11, szl12, szl13, szl14, szl15, szl16, szl17, szl18, szl19, szl20, szl21, szl22, szl23, szl24, szl25, szl26, szl27, szl28, szl29, szl30, szl31, szl32, szl33, szl34, szl35, szl36, szl37, szl38, szl39, szl40, szl41, szl42, szl43, szl44, szl45, szl46, szl47, szl48, szl49, szl50, szl51, szl52, szl53, szl54, szl55, szl56, szl57, szl58, szl59, szl60, szl61, szl62, szl63, szl64, szl65, szl66, szl67, szl68, szl69, frzV_ref, zfrz, Option.map_some, Option.map_none, frzV_non, frzV_bl, frzV_int, frzV_str, frzV_tup, frzV_lst, frzV_rol, frzV_dct]
  refine ⟨divW (by decide) (by decide), by decide, atP_int hn (by decide) (by omega) fun c _ => ?_⟩
  simp only [zsp, zSs, zS, zE, zEs, zT, zBoVs, zBoTs, zA, zIfs, zI, zO, zG, zGs, zsCons, zsNil, zsIf, zsRet, zsRetN, zsExpr, zsAsg, zsPar, zsFor, zsSet, zsSetL, zsPass, zsBreak, zsCont, zsFrz, zEnds, zstart, z1, z2, zVar, zGet, zCst, zChain_eq, onB_bl, tOf, zNotT, zBoT, zBoV, zIf, zNil, zCons, zTup, zPart, zNoPart, zSl, zSlL, zCB, zCBL, zBF, zLM, LM.ty, IC.pv, zAbs, zList, zIsi, zVal, zRng1, zRng2, zEnum, Zz.gNm, Zz.gNil, Zz.gCons, Zz.gTup, zCall, zMt, zAppend, zExtend, zInsert, zPop, zReverse, zRev, zDct0, zDctK, zDctT, zYes, zLc, zwipe, zCmp, zEq, zIs, isNonP, List.map_cons, List.map_nil, List.cons_append, List.nil_append, List.replicate_succ, List.replicate_zero, List.length_cons, List.length_nil, List.set_cons_zero, List.set_cons_succ, List.getElem?_cons_zero, List.getElem?_cons_succ, Option.join_some, Nat.reduceAdd, Nat.reduceSub, Nat.zero_add, isiB, Bool.not_eq_true', decide_eq_false_iff_not, decide_eq_true_eq,  tyP_non, isDct_non, rs_non, tyP_bl, isDct_bl, rs_bl, tyP_int, isDct_int, rs_int, tyP_str, isDct_str, rs_str, tyP_tup, isDct_tup, rs_tup, tyP_lst, isDct_lst, rs_lst, tyP_rol, isDct_rol, rs_rol, tyP_dct, isDct_dct, rs_dct, asL_lst, asL_rol, asS_lst, asS_rol, asS_tup, asW_lst, asT_tup, asL_mset, asS_mset, asW_mset, refL_mset, isDct_mset, tyP_mset, rs_mset, Option.some.injEq, exists_eq_left', true_and, and_true, Bool.not_true, Bool.not_false, Bool.false_eq_true, if_true, if_false, ite_true, ite_false, String.reduceBEq, Bool.or_false, Bool.or_true, Bool.false_or, Bool.true_or, Bool.and_false, Bool.and_true, Bool.true_and, Bool.false_and, reduceIte, PV.int.injEq, exists_const, PV.tup.injEq, PV.lst.injEq, PV.ref.injEq, PV.ty.injEq, zIn, List.all_cons, List.all_nil, List.any_cons, List.any_nil, atP_0, atP_1, atP_2, flat_ints, Zz.any_ints, Nat.zero_le, IC.v, Nat.reduceLeDiff, forall_const, mset_mset, not_true_eq_false, not_false_eq_true, cpow9, pow9, cpow18, pow18, cpow30, pow30, ex2, Bool.true_eq_false, Int.cast_ofNat_Int, Int.ofNat_eq_natCast, flatP_non, flatP_bl, flatP_int, flatP_str, flatP_tup, flatP_lst, flatP_dct, eqF_ss, eqF_ii, eqF_bb, zB_Add_i, zB_Sub_i, zB_Mult_i, zB_FloorDiv_i, zB_Mod_i, zB_Pow_i, zB_BitAnd_i, zB_BitOr_i, zB_Add_s, zB_Add_t, zB_Add_l, zB_Mul_l, zIx_tup, zIx_lst, zIx_rol, zIx_str, zIx_mset, zLen_tup, zLen_lst, zLen_rol, zLen_str, zLen_mset, zInt_i, zInt_b, zTuple_t, zTuple_l, zTuple_m, zMax_ii, zMin_ii, zNeg_i, zNotV_b, zAllAny_l, wL_mset, szl0, szl1, szl2, szl3, szl4, szl5, szl6, szl7, szl8, szl9, szl10, szl11, szl12, szl13, szl14, szl15, szl16, szl17, szl18, szl19, szl20, szl21, szl22, szl23, szl24, szl25, szl26, szl27, szl28, szl29, szl30, szl31, szl32, szl33, szl34, szl35, szl36, szl37, szl38, szl39, szl40, szl41, szl42, szl43, szl44, szl45, szl46, szl47, szl48, szl49, szl50, szl51, szl52, szl53, szl54, szl55, szl56, szl57, szl58, szl59, szl60, szl61, szl62, szl63, szl64, szl65, szl66, szl67, szl68, szl69, frzV_ref, zfrz, Option.map_some, Option.map_none, frzV_non, frzV_bl, frzV_int, frzV_str, frzV_tup, frzV_lst, frzV_rol, frzV_dct]
  have hs : (61 : Int) ≤ (sizeLine : Int) := by decide
  refine ⟨by decide, atP_all (by split <;> decide) (by split <;> (simp only [List.length_cons, List.length_nil]; omega)) fun y hy => ?_⟩
  have hy' : ∃ m : Int, y = .int m ∧ 0 ≤ m ∧ m ≤ 61 := by
    simp only [List.mem_cons, List.not_mem_nil, or_false] at hy
    rcases hy with rfl | rfl
    · exact ⟨_, rfl, by omega, by omega⟩
    · exact ⟨_, rfl, by omega, by omega⟩
  obtain ⟨m, rfl, m0, m1⟩ := hy'
  simp only [zsp, zSs, zS, zE, zEs, zT, zBoVs, zBoTs, zA, zIfs, zI, zO, zG, zGs, zsCons, zsNil, zsIf, zsRet, zsRetN, zsExpr, zsAsg, zsPar, zsFor, zsSet, zsSetL, zsPass, zsBreak, zsCont, zsFrz, zEnds, zstart, z1, z2, zVar, zGet, zCst, zChain_eq, onB_bl, tOf, zNotT, zBoT, zBoV, zIf, zNil, zCons, zTup, zPart, zNoPart, zSl, zSlL, zCB, zCBL, zBF, zLM, LM.ty, IC.pv, zAbs, zList, zIsi, zVal, zRng1, zRng2, zEnum, Zz.gNm, Zz.gNil, Zz.gCons, Zz.gTup, zCall, zMt, zAppend, zExtend, zInsert, zPop, zReverse, zRev, zDct0, zDctK, zDctT, zYes, zLc, zwipe, zCmp, zEq, zIs, isNonP, List.map_cons, List.map_nil, List.cons_append, List.nil_append, List.replicate_succ, List.replicate_zero, List.length_cons, List.length_nil, List.set_cons_zero, List.set_cons_succ, List.getElem?_cons_zero, List.getElem?_cons_succ, Option.join_some, Nat.reduceAdd, Nat.reduceSub, Nat.zero_add, isiB, Bool.not_eq_true', decide_eq_false_iff_not, decide_eq_true_eq,  tyP_non, isDct_non, rs_non, tyP_bl, isDct_bl, rs_bl, tyP_int, isDct_int, rs_int, tyP_str, isDct_str, rs_str, tyP_tup, isDct_tup, rs_tup, tyP_lst, isDct_lst, rs_lst, tyP_rol, isDct_rol, rs_rol, tyP_dct, isDct_dct, rs_dct, asL_lst, asL_rol, asS_lst, asS_rol, asS_tup, asW_lst, asT_tup, asL_mset, asS_mset, asW_mset, refL_mset, isDct_mset, tyP_mset, rs_mset, Option.some.injEq, exists_eq_left', true_and, and_true, Bool.not_true, Bool.not_false, Bool.false_eq_true, if_true, if_false, ite_true, ite_false, String.reduceBEq, Bool.or_false, Bool.or_true, Bool.false_or, Bool.true_or, Bool.and_false, Bool.and_true, Bool.true_and, Bool.false_and, reduceIte, PV.int.injEq, exists_const, PV.tup.injEq, PV.lst.injEq, PV.ref.injEq, PV.ty.injEq, zIn, List.all_cons, List.all_nil, List.any_cons, List.any_nil, atP_0, atP_1, atP_2, flat_ints, Zz.any_ints, Nat.zero_le, IC.v, Nat.reduceLeDiff, forall_const, mset_mset, not_true_eq_false, not_false_eq_true, cpow9, pow9, cpow18, pow18, cpow30, pow30, ex2, Bool.true_eq_false, Int.cast_ofNat_Int, Int.ofNat_eq_natCast, flatP_non, flatP_bl, flatP_int, flatP_str, flatP_tup, flatP_lst, flatP_dct, eqF_ss, eqF_ii, eqF_bb, zB_Add_i, zB_Sub_i, zB_Mult_i, zB_FloorDiv_i, zB_Mod_i, zB_Pow_i, zB_BitAnd_i, zB_BitOr_i, zB_Add_s, zB_Add_t, zB_Add_l, zB_Mul_l, zIx_tup, zIx_lst, zIx_rol, zIx_str, zIx_mset, zLen_tup, zLen_lst, zLen_rol, zLen_str, zLen_mset, zInt_i, zInt_b, zTuple_t, zTuple_l, zTuple_m, zMax_ii, zMin_ii, zNeg_i, zNotV_b, zAllAny_l, wL_mset, szl0, szl1, szl2, szl3, szl4, szl5, szl6, szl7, szl8, szl9, szl10, szl11, szl12, szl13, szl14, szl15, szl16, szl17, szl18, szl19, szl20, szl21, szl22, szl23, szl24, szl25, szl26, szl27, szl28, szl29, szl30, szl31, szl32, szl33, szl34, szl35, szl36, szl37, szl38, szl39, szl40, szl41, szl42, szl43, szl44, szl45, szl46, szl47, szl48, szl49, szl50, szl51, szl52, szl53, szl54, szl55, szl56, szl57, szl58, szl59, szl60, szl61, szl62, szl63, szl64, szl65, szl66, szl67, szl68, szl69, frzV_ref, zfrz, Option.map_some, Option.map_none, frzV_non, frzV_bl, frzV_int, frzV_str, frzV_tup, frzV_lst, frzV_rol, frzV_dct]
  refine ⟨by omega, by omega, lc_all (fun _ y => pl y = true) _ (fun x hx N R hR => ?_) fun ys hys => ?_⟩
  · obtain ⟨j, hj, rfl⟩ := rngP_mem hx
    simp only [zsp, zSs, zS, zE, zEs, zT, zBoVs, zBoTs, zA, zIfs, zI, zO, zG, zGs, zsCons, zsNil, zsIf, zsRet, zsRetN, zsExpr, zsAsg, zsPar, zsFor, zsSet, zsSetL, zsPass, zsBreak, zsCont, zsFrz, zEnds, zstart, z1, z2, zVar, zGet, zCst, zChain_eq, onB_bl, tOf, zNotT, zBoT, zBoV, zIf, zNil, zCons, zTup, zPart, zNoPart, zSl, zSlL, zCB, zCBL, zBF, zLM, LM.ty, IC.pv, zAbs, zList, zIsi, zVal, zRng1, zRng2, zEnum, Zz.gNm, Zz.gNil, Zz.gCons, Zz.gTup, zCall, zMt, zAppend, zExtend, zInsert, zPop, zReverse, zRev, zDct0, zDctK, zDctT, zYes, zLc, zwipe, zCmp, zEq, zIs, isNonP, List.map_cons, List.map_nil, List.cons_append, List.nil_append, List.replicate_succ, List.replicate_zero, List.length_cons, List.length_nil, List.set_cons_zero, List.set_cons_succ, List.getElem?_cons_zero, List.getElem?_cons_succ, Option.join_some, Nat.reduceAdd, Nat.reduceSub, Nat.zero_add, isiB, Bool.not_eq_true', decide_eq_false_iff_not, decide_eq_true_eq,  tyP_non, isDct_non, rs_non, tyP_bl, isDct_bl, rs_bl, tyP_int, isDct_int, rs_int, tyP_str, isDct_str, rs_str, tyP_tup, isDct_tup, rs_tup, tyP_lst, isDct_lst, rs_lst, tyP_rol, isDct_rol, rs_rol, tyP_dct, isDct_dct, rs_dct, asL_lst, asL_rol, asS_lst, asS_rol, asS_tup, asW_lst, asT_tup, asL_mset, asS_mset, asW_mset, refL_mset, isDct_mset, tyP_mset, rs_mset, Option.some.injEq, exists_eq_left', true_and, and_true, Bool.not_true, Bool.not_false, Bool.false_eq_true, if_true, if_false, ite_true, ite_false, String.reduceBEq, Bool.or_false, Bool.or_true, Bool.false_or, Bool.true_or, Bool.and_false, Bool.and_true, Bool.true_and, Bool.false_and, reduceIte, PV.int.injEq, exists_const, PV.tup.injEq, PV.lst.injEq, PV.ref.injEq, PV.ty.injEq, zIn, List.all_cons, List.all_nil, List.any_cons, List.any_nil, atP_0, atP_1, atP_2, flat_ints, Zz.any_ints, Nat.zero_le, IC.v, Nat.reduceLeDiff, forall_const, mset_mset, not_true_eq_false, not_false_eq_true, cpow9, pow9, cpow18, pow18, cpow30, pow30, ex2, Bool.true_eq_false, Int.cast_ofNat_Int, Int.ofNat_eq_natCast, flatP_non, flatP_bl, flatP_int, flatP_str, flatP_tup, flatP_lst, flatP_dct, eqF_ss, eqF_ii, eqF_bb, zB_Add_i, zB_Sub_i, zB_Mult_i, zB_FloorDiv_i, zB_Mod_i, zB_Pow_i, zB_BitAnd_i, zB_BitOr_i, zB_Add_s, zB_Add_t, zB_Add_l, zB_Mul_l, zIx_tup, zIx_lst, zIx_rol, zIx_str, zIx_mset, zLen_tup, zLen_lst, zLen_rol, zLen_str, zLen_mset, zInt_i, zInt_b, zTuple_t, zTuple_l, zTuple_m, zMax_ii, zMin_ii, zNeg_i, zNotV_b, zAllAny_l, wL_mset, szl0, szl1, szl2, szl3, szl4, szl5, szl6, szl7, szl8, szl9, szl10, szl11, szl12, szl13, szl14, szl15, szl16, szl17, szl18, szl19, szl20, szl21, szl22, szl23, szl24, szl25, szl26, szl27, szl28, szl29, szl30, szl31, szl32, szl33, szl34, szl35, szl36, szl37, szl38, szl39, szl40, szl41, szl42, szl43, szl44, szl45, szl46, szl47, szl48, szl49, szl50, szl51, szl52, szl53, szl54, szl55, szl56, szl57, szl58, szl59, szl60, szl61, szl62, szl63, szl64, szl65, szl66, szl67, szl68, szl69, frzV_ref, zfrz, Option.map_some, Option.map_none, frzV_non, frzV_bl, frzV_int, frzV_str, frzV_tup, frzV_lst, frzV_rol, frzV_dct]
    exact ⟨by omega, atP_mod (by omega) (by omega) fun y hy => hR y (pls_mem hgp y hy)⟩
  · have hyl := forall2_len hys
    rw [rngP_len] at hyl
    have hat : ∀ y ∈ ys, pl y = true := forall2_mem hys (fun _ _ _ h => h)
    have ho' : ∀ (p : Addr) (l : List PV), frzV p l od = od := fun p l => by
      cases od <;> first | rfl | (simp [pl] at ho; done)
    refine ⟨Nat.le_trans (m := 61) (by omega) (by decide), fun p hp => atP_int hn (by decide) (by omega) fun a ha => ?_⟩
    simp only [mdel_mset hp, ho', zsp, zSs, zS, zE, zEs, zT, zBoVs, zBoTs, zA, zIfs, zI, zO, zG, zGs, zsCons, zsNil, zsIf, zsRet, zsRetN, zsExpr, zsAsg, zsPar, zsFor, zsSet, zsSetL, zsPass, zsBreak, zsCont, zsFrz, zEnds, zstart, z1, z2, zVar, zGet, zCst, zChain_eq, onB_bl, tOf, zNotT, zBoT, zBoV, zIf, zNil, zCons, zTup, zPart, zNoPart, zSl, zSlL, zCB, zCBL, zBF, zLM, LM.ty, IC.pv, zAbs, zList, zIsi, zVal, zRng1, zRng2, zEnum, Zz.gNm, Zz.gNil, Zz.gCons, Zz.gTup, zCall, zMt, zAppend, zExtend, zInsert, zPop, zReverse, zRev, zDct0, zDctK, zDctT, zYes, zLc, zwipe, zCmp, zEq, zIs, isNonP, List.map_cons, List.map_nil, List.cons_append, List.nil_append, List.replicate_succ, List.replicate_zero, List.length_cons, List.length_nil, List.set_cons_zero, List.set_cons_succ, List.getElem?_cons_zero, List.getElem?_cons_succ, Option.join_some, Nat.reduceAdd, Nat.reduceSub, Nat.zero_add, isiB, Bool.not_eq_true', decide_eq_false_iff_not, decide_eq_true_eq,  tyP_non, isDct_non, rs_non, tyP_bl, isDct_bl, rs_bl, tyP_int, isDct_int, rs_int, tyP_str, isDct_str, rs_str, tyP_tup, isDct_tup, rs_tup, tyP_lst, isDct_lst, rs_lst, tyP_rol, isDct_rol, rs_rol, tyP_dct, isDct_dct, rs_dct, asL_lst, asL_rol, asS_lst, asS_rol, asS_tup, asW_lst, asT_tup, asL_mset, asS_mset, asW_mset, refL_mset, isDct_mset, tyP_mset, rs_mset, Option.some.injEq, exists_eq_left', true_and, and_true, Bool.not_true, Bool.not_false, Bool.false_eq_true, if_true, if_false, ite_true, ite_false, String.reduceBEq, Bool.or_false, Bool.or_true, Bool.false_or, Bool.true_or, Bool.and_false, Bool.and_true, Bool.true_and, Bool.false_and, reduceIte, PV.int.injEq, exists_const, PV.tup.injEq, PV.lst.injEq, PV.ref.injEq, PV.ty.injEq, zIn, List.all_cons, List.all_nil, List.any_cons, List.any_nil, atP_0, atP_1, atP_2, flat_ints, Zz.any_ints, Nat.zero_le, IC.v, Nat.reduceLeDiff, forall_const, mset_mset, not_true_eq_false, not_false_eq_true, cpow9, pow9, cpow18, pow18, cpow30, pow30, ex2, Bool.true_eq_false, Int.cast_ofNat_Int, Int.ofNat_eq_natCast, flatP_non, flatP_bl, flatP_int, flatP_str, flatP_tup, flatP_lst, flatP_dct, eqF_ss, eqF_ii, eqF_bb, zB_Add_i, zB_Sub_i, zB_Mult_i, zB_FloorDiv_i, zB_Mod_i, zB_Pow_i, zB_BitAnd_i, zB_BitOr_i, zB_Add_s, zB_Add_t, zB_Add_l, zB_Mul_l, zIx_tup, zIx_lst, zIx_rol, zIx_str, zIx_mset, zLen_tup, zLen_lst, zLen_rol, zLen_str, zLen_mset, zInt_i, zInt_b, zTuple_t, zTuple_l, zTuple_m, zMax_ii, zMin_ii, zNeg_i, zNotV_b, zAllAny_l, wL_mset, szl0, szl1, szl2, szl3, szl4, szl5, szl6, szl7, szl8, szl9, szl10, szl11, szl12, szl13, szl14, szl15, szl16, szl17, szl18, szl19, szl20, szl21, szl22, szl23, szl24, szl25, szl26, szl27, szl28, szl29, szl30, szl31, szl32, szl33, szl34, szl35, szl36, szl37, szl38, szl39, szl40, szl41, szl42, szl43, szl44, szl45, szl46, szl47, szl48, szl49, szl50, szl51, szl52, szl53, szl54, szl55, szl56, szl57, szl58, szl59, szl60, szl61, szl62, szl63, szl64, szl65, szl66, szl67, szl68, szl69, frzV_ref, zfrz, Option.map_some, Option.map_none, frzV_non, frzV_bl, frzV_int, frzV_str, frzV_tup, frzV_lst, frzV_rol, frzV_dct]
    have fin : ∀ zs : List PV, pls zs = true → zs.length ≤ 61 → atP (ns.map .int) 1 fun y => ZCall T (k + 2) "_law_within" [.lst zs, y] M (fun x M => ∃ M', subM M' M ∧ Q x M') fun C fs M2 => X C fs M2 := fun zs hz hzl =>
      atP_int hn (by decide) (by omega) fun b _ => sp_L_within E hz (by omega) fun v hv => ret_same (q v hv)
    have hyl' : ys.length ≤ 61 := by omega
    refine ⟨by decide, ite_any (fun _ => ite_any (fun hm => ?_) fun _ => fin ys (pls_all hat) hyl') fun _ => fin ys (pls_all hat) hyl'⟩
    refine atP_int hn (by decide) (by omega) fun e _ => ?_
    simp only [zsp, zSs, zS, zE, zEs, zT, zBoVs, zBoTs, zA, zIfs, zI, zO, zG, zGs, zsCons, zsNil, zsIf, zsRet, zsRetN, zsExpr, zsAsg, zsPar, zsFor, zsSet, zsSetL, zsPass, zsBreak, zsCont, zsFrz, zEnds, zstart, z1, z2, zVar, zGet, zCst, zChain_eq, onB_bl, tOf, zNotT, zBoT, zBoV, zIf, zNil, zCons, zTup, zPart, zNoPart, zSl, zSlL, zCB, zCBL, zBF, zLM, LM.ty, IC.pv, zAbs, zList, zIsi, zVal, zRng1, zRng2, zEnum, Zz.gNm, Zz.gNil, Zz.gCons, Zz.gTup, zCall, zMt, zAppend, zExtend, zInsert, zPop, zReverse, zRev, zDct0, zDctK, zDctT, zYes, zLc, zwipe, zCmp, zEq, zIs, isNonP, List.map_cons, List.map_nil, List.cons_append, List.nil_append, List.replicate_succ, List.replicate_zero, List.length_cons, List.length_nil, List.set_cons_zero, List.set_cons_succ, List.getElem?_cons_zero, List.getElem?_cons_succ, Option.join_some, Nat.reduceAdd, Nat.reduceSub, Nat.zero_add, isiB, Bool.not_eq_true', decide_eq_false_iff_not, decide_eq_true_eq,  tyP_non, isDct_non, rs_non, tyP_bl, isDct_bl, rs_bl, tyP_int, isDct_int, rs_int, tyP_str, isDct_str, rs_str, tyP_tup, isDct_tup, rs_tup, tyP_lst, isDct_lst, rs_lst, tyP_rol, isDct_rol, rs_rol, tyP_dct, isDct_dct, rs_dct, asL_lst, asL_rol, asS_lst, asS_rol, asS_tup, asW_lst, asT_tup, asL_mset, asS_mset, asW_mset, refL_mset, isDct_mset, tyP_mset, rs_mset, Option.some.injEq, exists_eq_left', true_and, and_true, Bool.not_true, Bool.not_false, Bool.false_eq_true, if_true, if_false, ite_true, ite_false, String.reduceBEq, Bool.or_false, Bool.or_true, Bool.false_or, Bool.true_or, Bool.and_false, Bool.and_true, Bool.true_and, Bool.false_and, reduceIte, PV.int.injEq, exists_const, PV.tup.injEq, PV.lst.injEq, PV.ref.injEq, PV.ty.injEq, zIn, List.all_cons, List.all_nil, List.any_cons, List.any_nil, atP_0, atP_1, atP_2, flat_ints, Zz.any_ints, Nat.zero_le, IC.v, Nat.reduceLeDiff, forall_const, mset_mset, not_true_eq_false, not_false_eq_true, cpow9, pow9, cpow18, pow18, cpow30, pow30, ex2, Bool.true_eq_false, Int.cast_ofNat_Int, Int.ofNat_eq_natCast, flatP_non, flatP_bl, flatP_int, flatP_str, flatP_tup, flatP_lst, flatP_dct, eqF_ss, eqF_ii, eqF_bb, zB_Add_i, zB_Sub_i, zB_Mult_i, zB_FloorDiv_i, zB_Mod_i, zB_Pow_i, zB_BitAnd_i, zB_BitOr_i, zB_Add_s, zB_Add_t, zB_Add_l, zB_Mul_l, zIx_tup, zIx_lst, zIx_rol, zIx_str, zIx_mset, zLen_tup, zLen_lst, zLen_rol, zLen_str, zLen_mset, zInt_i, zInt_b, zTuple_t, zTuple_l, zTuple_m, zMax_ii, zMin_ii, zNeg_i, zNotV_b, zAllAny_l, wL_mset, szl0, szl1, szl2, szl3, szl4, szl5, szl6, szl7, szl8, szl9, szl10, szl11, szl12, szl13, szl14, szl15, szl16, szl17, szl18, szl19, szl20, szl21, szl22, szl23, szl24, szl25, szl26, szl27, szl28, szl29, szl30, szl31, szl32, szl33, szl34, szl35, szl36, szl37, szl38, szl39, szl40, szl41, szl42, szl43, szl44, szl45, szl46, szl47, szl48, szl49, szl50, szl51, szl52, szl53, szl54, szl55, szl56, szl57, szl58, szl59, szl60, szl61, szl62, szl63, szl64, szl65, szl66, szl67, szl68, szl69, frzV_ref, zfrz, Option.map_some, Option.map_none, frzV_non, frzV_bl, frzV_int, frzV_str, frzV_tup, frzV_lst, frzV_rol, frzV_dct]
    refine ⟨divW (by decide) (by decide), hm, dPut_no (Int.emod_nonneg _ (by omega)) (by have := Int.emod_lt_of_pos (e / 3) hm; omega) fun j hj => ?_⟩
    simp only [mdel_mset hp, ho', zsp, zSs, zS, zE, zEs, zT, zBoVs, zBoTs, zA, zIfs, zI, zO, zG, zGs, zsCons, zsNil, zsIf, zsRet, zsRetN, zsExpr, zsAsg, zsPar, zsFor, zsSet, zsSetL, zsPass, zsBreak, zsCont, zsFrz, zEnds, zstart, z1, z2, zVar, zGet, zCst, zChain_eq, onB_bl, tOf, zNotT, zBoT, zBoV, zIf, zNil, zCons, zTup, zPart, zNoPart, zSl, zSlL, zCB, zCBL, zBF, zLM, LM.ty, IC.pv, zAbs, zList, zIsi, zVal, zRng1, zRng2, zEnum, Zz.gNm, Zz.gNil, Zz.gCons, Zz.gTup, zCall, zMt, zAppend, zExtend, zInsert, zPop, zReverse, zRev, zDct0, zDctK, zDctT, zYes, zLc, zwipe, zCmp, zEq, zIs, isNonP, List.map_cons, List.map_nil, List.cons_append, List.nil_append, List.replicate_succ, List.replicate_zero, List.length_cons, List.length_nil, List.set_cons_zero, List.set_cons_succ, List.getElem?_cons_zero, List.getElem?_cons_succ, Option.join_some, Nat.reduceAdd, Nat.reduceSub, Nat.zero_add, isiB, Bool.not_eq_true', decide_eq_false_iff_not, decide_eq_true_eq,  tyP_non, isDct_non, rs_non, tyP_bl, isDct_bl, rs_bl, tyP_int, isDct_int, rs_int, tyP_str, isDct_str, rs_str, tyP_tup, isDct_tup, rs_tup, tyP_lst, isDct_lst, rs_lst, tyP_rol, isDct_rol, rs_rol, tyP_dct, isDct_dct, rs_dct, asL_lst, asL_rol, asS_lst, asS_rol, asS_tup, asW_lst, asT_tup, asL_mset, asS_mset, asW_mset, refL_mset, isDct_mset, tyP_mset, rs_mset, Option.some.injEq, exists_eq_left', true_and, and_true, Bool.not_true, Bool.not_false, Bool.false_eq_true, if_true, if_false, ite_true, ite_false, String.reduceBEq, Bool.or_false, Bool.or_true, Bool.false_or, Bool.true_or, Bool.and_false, Bool.and_true, Bool.true_and, Bool.false_and, reduceIte, PV.int.injEq, exists_const, PV.tup.injEq, PV.lst.injEq, PV.ref.injEq, PV.ty.injEq, zIn, List.all_cons, List.all_nil, List.any_cons, List.any_nil, atP_0, atP_1, atP_2, flat_ints, Zz.any_ints, Nat.zero_le, IC.v, Nat.reduceLeDiff, forall_const, mset_mset, not_true_eq_false, not_false_eq_true, cpow9, pow9, cpow18, pow18, cpow30, pow30, ex2, Bool.true_eq_false, Int.cast_ofNat_Int, Int.ofNat_eq_natCast, flatP_non, flatP_bl, flatP_int, flatP_str, flatP_tup, flatP_lst, flatP_dct, eqF_ss, eqF_ii, eqF_bb, zB_Add_i, zB_Sub_i, zB_Mult_i, zB_FloorDiv_i, zB_Mod_i, zB_Pow_i, zB_BitAnd_i, zB_BitOr_i, zB_Add_s, zB_Add_t, zB_Add_l, zB_Mul_l, zIx_tup, zIx_lst, zIx_rol, zIx_str, zIx_mset, zLen_tup, zLen_lst, zLen_rol, zLen_str, zLen_mset, zInt_i, zInt_b, zTuple_t, zTuple_l, zTuple_m, zMax_ii, zMin_ii, zNeg_i, zNotV_b, zAllAny_l, wL_mset, szl0, szl1, szl2, szl3, szl4, szl5, szl6, szl7, szl8, szl9, szl10, szl11, szl12, szl13, szl14, szl15, szl16, szl17, szl18, szl19, szl20, szl21, szl22, szl23, szl24, szl25, szl26, szl27, szl28, szl29, szl30, szl31, szl32, szl33, szl34, szl35, szl36, szl37, szl38, szl39, szl40, szl41, szl42, szl43, szl44, szl45, szl46, szl47, szl48, szl49, szl50, szl51, szl52, szl53, szl54, szl55, szl56, szl57, szl58, szl59, szl60, szl61, szl62, szl63, szl64, szl65, szl66, szl67, szl68, szl69, frzV_ref, zfrz, Option.map_some, Option.map_none, frzV_non, frzV_bl, frzV_int, frzV_str, frzV_tup, frzV_lst, frzV_rol, frzV_dct]
    refine fin _ (pls_all fun y hy => ?_) (by rw [List.length_set]; exact hyl')
    rcases List.mem_or_eq_of_mem_set hy with h | h
    · exact hat y h
    · subst h; exact ho
theorem sp_L_some_order {ns : List Int} (hn : ∀ n ∈ ns, Bd n) (hl : 11 ≤ ns.length) (q : ∀ v, pl v = true → Q v M) : ZCall T (k + 3) "_law_some_order" [.lst (ns.map .int)] M Q X := by
  apply call_L_some_order E rfl
  simp only [ir_L_some_order, N_L_some_order, zsp, zSs, zS, zE, zEs, zT, zBoVs, zBoTs, zA, zIfs, zI, zO, zG, zGs, zsCons, zsNil, zsIf, zsRet, zsRetN, zsExpr, zsAsg, zsPar, zsFor, zsSet, zsSetL, zsPass, zsBreak, zsCont, zsFrz, zEnds, zstart, z1, z2, zVar, zGet, zCst, zChain_eq, onB_bl, tOf, zNotT, zBoT, zBoV, zIf, zNil, zCons, zTup, zPart, zNoPart, zSl, zSlL, zCB, zCBL, zBF, zLM, LM.ty, IC.pv, zAbs, zList, zIsi, zVal, zRng1, zRng2, zEnum, Zz.gNm, Zz.gNil, Zz.gCons, Zz.gTup, zCall, zMt, zAppend, zExtend, zInsert, zPop, zReverse, zRev, zDct0, zDctK, zDctT, zYes, zLc, zwipe, zCmp, zEq, zIs, isNonP, List.map_cons, List.map_nil, List.cons_append, List.nil_append, List.replicate_succ, List.replicate_zero, List.length_cons, List.length_nil, List.set_cons_zero, List.set_cons_succ, List.getElem?_cons_zero, List.getElem?_cons_succ, Option.join_some, Nat.reduceAdd, Nat.reduceSub, Nat.zero_add, isiB, Bool.not_eq_true', decide_eq_false_iff_not, decide_eq_true_eq,  tyP_non, isDct_non, rs_non, tyP_bl, isDct_bl, rs_bl, tyP_int, isDct_int, rs_int, tyP_str, isDct_str, rs_str, tyP_tup, isDct_tup, rs_tup, tyP_lst, isDct_lst, rs_lst, tyP_rol, isDct_rol, rs_rol, tyP_dct, isDct_dct, rs_dct, asL_lst, asL_rol, asS_lst, asS_rol, asS_tup, asW_lst, asT_tup, asL_mset, asS_mset, asW_mset, refL_mset, isDct_mset, tyP_mset, rs_mset, Option.some.injEq, exists_eq_left', true_and, and_true, Bool.not_true, Bool.not_false, Bool.false_eq_true, if_true, if_false, ite_true, ite_false, String.reduceBEq, Bool.or_false, Bool.or_true, Bool.false_or, Bool.true_or, Bool.and_false, Bool.and_true, Bool.true_and, Bool.false_and, reduceIte, PV.int.injEq, exists_const, PV.tup.injEq, PV.lst.injEq, PV.ref.injEq, PV.ty.injEq, zIn, List.all_cons, List.all_nil, List.any_cons, List.any_nil, atP_0, atP_1, atP_2, flat_ints, Zz.any_ints, Nat.zero_le, IC.v, Nat.reduceLeDiff, forall_const, mset_mset, not_true_eq_false, not_false_eq_true, cpow9, pow9, cpow18, pow18, cpow30, pow30, ex2, Bool.true_eq_false, Int.cast_ofNat_Int, Int.ofNat_eq_natCast, flatP_non, flatP_bl, flatP_int, flatP_str, flatP_tup, flatP_lst, flatP_dct, eqF_ss, eqF_ii, eqF_bb, zB_Add_i, zB_Sub_i, zB_Mult_i, zB_FloorDiv_i, zB_Mod_i, zB_Pow_i, zB_BitAnd_i, zB_BitOr_i, zB_Add_s, zB_Add_t, zB_Add_l, zB_Mul_l, zIx_tup, zIx_lst, zIx_rol, zIx_str, zIx_mset, zLen_tup, zLen_lst, zLen_rol, zLen_str, zLen_mset, zInt_i, zInt_b, zTuple_t, zTuple_l, zTuple_m, zMax_ii, zMin_ii, zNeg_i, zNotV_b, zAllAny_l, wL_mset, szl0, szl1, szl2, szl3, szl4, szl5, szl6, szl7, szl8, szl9, szl10, szl11, szl12, szl13, szl14, szl15, szl16, szl17, szl18, szl19, szl20, szl21, szl22, szl23, szl24, szl25, szl26, szl27, szl28, szl29, szl30, szl31, szl32, szl33, szl34, szl35, szl36, szl37, szl38, szl39, szl40, szl41, szl42, szl43, szl44, szl45, szl46, szl47, szl48, szl49, szl50, szl51, szl52, szl53, szl54, szl55, szl56, szl57, szl58, szl59, szl60, szl61, szl62, szl63, szl64, szl65, szl66, szl67, szl68, szl69, frzV_ref, zfrz, Option.map_some, Option.map_none, frzV_non, frzV_bl, frzV_int, frzV_str, frzV_tup, frzV_lst, frzV_rol, frzV_dct]
  refine ⟨by decide, by decide, by decide, ?_⟩
  refine atP_int hn (by decide) (by omega) fun a _ => ?_
  simp only [zsp, zSs, zS, zE, zEs, zT, zBoVs, zBoTs, zA, zIfs, zI, zO, zG, zGs, zsCons, zsNil, zsIf, zsRet, zsRetN, zsExpr, zsAsg, zsPar, zsFor, zsSet, zsSetL, zsPass, zsBreak, zsCont, zsFrz, zEnds, zstart, z1, z2, zVar, zGet, zCst, zChain_eq, onB_bl, tOf, zNotT, zBoT, zBoV, zIf, zNil, zCons, zTup, zPart, zNoPart, zSl, zSlL, zCB, zCBL, zBF, zLM, LM.ty, IC.pv, zAbs, zList, zIsi, zVal, zRng1, zRng2, zEnum, Zz.gNm, Zz.gNil, Zz.gCons, Zz.gTup, zCall, zMt, zAppend, zExtend, zInsert, zPop, zReverse, zRev, zDct0, zDctK, zDctT, zYes, zLc, zwipe, zCmp, zEq, zIs, isNonP, List.map_cons, List.map_nil, List.cons_append, List.nil_append, List.replicate_succ, List.replicate_zero, List.length_cons, List.length_nil, List.set_cons_zero, List.set_cons_succ, List.getElem?_cons_zero, List.getElem?_cons_succ, Option.join_some, Nat.reduceAdd, Nat.reduceSub, Nat.zero_add, isiB, Bool.not_eq_true', decide_eq_false_iff_not, decide_eq_true_eq,  tyP_non, isDct_non, rs_non, tyP_bl, isDct_bl, rs_bl, tyP_int, isDct_int, rs_int, tyP_str, isDct_str, rs_str, tyP_tup, isDct_tup, rs_tup, tyP_lst, isDct_lst, rs_lst, tyP_rol, isDct_rol, rs_rol, tyP_dct, isDct_dct, rs_dct, asL_lst, asL_rol, asS_lst, asS_rol, asS_tup, asW_lst, asT_tup, asL_mset, asS_mset, asW_mset, refL_mset, isDct_mset, tyP_mset, rs_mset, Option.some.injEq, exists_eq_left', true_and, and_true, Bool.not_true, Bool.not_false, Bool.false_eq_true, if_true, if_false, ite_true, ite_false, String.reduceBEq, Bool.or_false, Bool.or_true, Bool.false_or, Bool.true_or, Bool.and_false, Bool.and_true, Bool.true_and, Bool.false_and, reduceIte, PV.int.injEq, exists_const, PV.tup.injEq, PV.lst.injEq, PV.ref.injEq, PV.ty.injEq, zIn, List.all_cons, List.all_nil, List.any_cons, List.any_nil, atP_0, atP_1, atP_2, flat_ints, Zz.any_ints, Nat.zero_le, IC.v, Nat.reduceLeDiff, forall_const, mset_mset, not_true_eq_false, not_false_eq_true, cpow9, pow9, cpow18, pow18, cpow30, pow30, ex2, Bool.true_eq_false, Int.cast_ofNat_Int, Int.ofNat_eq_natCast, flatP_non, flatP_bl, flatP_int, flatP_str, flatP_tup, flatP_lst, flatP_dct, eqF_ss, eqF_ii, eqF_bb, zB_Add_i, zB_Sub_i, zB_Mult_i, zB_FloorDiv_i, zB_Mod_i, zB_Pow_i, zB_BitAnd_i, zB_BitOr_i, zB_Add_s, zB_Add_t, zB_Add_l, zB_Mul_l, zIx_tup, zIx_lst, zIx_rol, zIx_str, zIx_mset, zLen_tup, zLen_lst, zLen_rol, zLen_str, zLen_mset, zInt_i, zInt_b, zTuple_t, zTuple_l, zTuple_m, zMax_ii, zMin_ii, zNeg_i, zNotV_b, zAllAny_l, wL_mset, szl0, szl1, szl2, szl3, szl4, szl5, szl6, szl7, szl8, szl9, szl10, szl11, szl12, szl13, szl14, szl15, szl16, szl17, szl18, szl19, szl20, szl21, szl22, szl23, szl24, szl25, szl26, szl27, szl28, szl29, szl30, szl31, szl32, szl33, szl34, szl35, szl36, szl37, szl38, szl39, szl40, szl41, szl42, szl43, szl44, szl45, szl46, szl47, szl48, szl49, szl50, szl51, szl52, szl53, szl54, szl55, szl56, szl57, szl58, szl59, szl60, szl61, szl62, szl63, szl64, szl65, szl66, szl67, szl68, szl69, frzV_ref, zfrz, Option.map_some, Option.map_none, frzV_non, frzV_bl, frzV_int, frzV_str, frzV_tup, frzV_lst, frzV_rol, frzV_dct]
  refine ⟨by decide, atP_int hn (by decide) (by omega) fun b _ => ?_⟩
  simp only [zsp, zSs, zS, zE, zEs, zT, zBoVs, zBoTs, zA, zIfs, zI, zO, zG, zGs, zsCons, zsNil, zsIf, zsRet, zsRetN, zsExpr, zsAsg, zsPar, zsFor, zsSet, zsSetL, zsPass, zsBreak, zsCont, zsFrz, zEnds, zstart, z1, z2, zVar, zGet, zCst, zChain_eq, onB_bl, tOf, zNotT, zBoT, zBoV, zIf, zNil, zCons, zTup, zPart, zNoPart, zSl, zSlL, zCB, zCBL, zBF, zLM, LM.ty, IC.pv, zAbs, zList, zIsi, zVal, zRng1, zRng2, zEnum, Zz.gNm, Zz.gNil, Zz.gCons, Zz.gTup, zCall, zMt, zAppend, zExtend, zInsert, zPop, zReverse, zRev, zDct0, zDctK, zDctT, zYes, zLc, zwipe, zCmp, zEq, zIs, isNonP, List.map_cons, List.map_nil, List.cons_append, List.nil_append, List.replicate_succ, List.replicate_zero, List.length_cons, List.length_nil, List.set_cons_zero, List.set_cons_succ, List.getElem?_cons_zero, List.getElem?_cons_succ, Option.join_some, Nat.reduceAdd, Nat.reduceSub, Nat.zero_add, isiB, Bool.not_eq_true', decide_eq_false_iff_not, decide_eq_true_eq,  tyP_non, isDct_non, rs_non, tyP_bl, isDct_bl, rs_bl, tyP_int, isDct_int, rs_int, tyP_str, isDct_str, rs_str, tyP_tup, isDct_tup, rs_tup, tyP_lst, isDct_lst, rs_lst, tyP_rol, isDct_rol, rs_rol, tyP_dct, isDct_dct, rs_dct, asL_lst, asL_rol, asS_lst, asS_rol, asS_tup, asW_lst, asT_tup, asL_mset, asS_mset, asW_mset, refL_mset, isDct_mset, tyP_mset, rs_mset, Option.some.injEq, exists_eq_left', true_and, and_true, Bool.not_true, Bool.not_false, Bool.false_eq_true, if_true, if_false, ite_true, ite_false, String.reduceBEq, Bool.or_false, Bool.or_true, Bool.false_or, Bool.true_or, Bool.and_false, Bool.and_true, Bool.true_and, Bool.false_and, reduceIte, PV.int.injEq, exists_const, PV.tup.injEq, PV.lst.injEq, PV.ref.injEq, PV.ty.injEq, zIn, List.all_cons, List.all_nil, List.any_cons, List.any_nil, atP_0, atP_1, atP_2, flat_ints, Zz.any_ints, Nat.zero_le, IC.v, Nat.reduceLeDiff, forall_const, mset_mset, not_true_eq_false, not_false_eq_true, cpow9, pow9, cpow18, pow18, cpow30, pow30, ex2, Bool.true_eq_false, Int.cast_ofNat_Int, Int.ofNat_eq_natCast, flatP_non, flatP_bl, flatP_int, flatP_str, flatP_tup, flatP_lst, flatP_dct, eqF_ss, eqF_ii, eqF_bb, zB_Add_i, zB_Sub_i, zB_Mult_i, zB_FloorDiv_i, zB_Mod_i, zB_Pow_i, zB_BitAnd_i, zB_BitOr_i, zB_Add_s, zB_Add_t, zB_Add_l, zB_Mul_l, zIx_tup, zIx_lst, zIx_rol, zIx_str, zIx_mset, zLen_tup, zLen_lst, zLen_rol, zLen_str, zLen_mset, zInt_i, zInt_b, zTuple_t, zTuple_l, zTuple_m, zMax_ii, zMin_ii, zNeg_i, zNotV_b, zAllAny_l, wL_mset, szl0, szl1, szl2, szl3, szl4, szl5, szl6, szl7, szl8, szl9, szl10, szl11, szl12, szl13, szl14, szl15, szl16, szl17, szl18, szl19, szl20, szl21, szl22, szl23, szl24, szl25, szl26, szl27, szl28, szl29, szl30, szl31, szl32, szl33, szl34, szl35, szl36, szl37, szl38, szl39, szl40, szl41, szl42, szl43, szl44, szl45, szl46, szl47, szl48, szl49, szl50, szl51, szl52, szl53, szl54, szl55, szl56, szl57, szl58, szl59, szl60, szl61, szl62, szl63, szl64, szl65, szl66, szl67, szl68, szl69, frzV_ref, zfrz, Option.map_some, Option.map_none, frzV_non, frzV_bl, frzV_int, frzV_str, frzV_tup, frzV_lst, frzV_rol, frzV_dct]
  refine ⟨by decide, atP_int hn (by decide) (by omega) fun c _ => ?_⟩
  have fl : (List.replicate (Int.toNat 3) [PV.int 1, PV.int 2, PV.int 3, PV.int 4]).flatten = ([1, 2, 3, 4, 1, 2, 3, 4, 1, 2, 3, 4] : List Int).map PV.int := rfl
  rw [fl, cut_map, cut_map, ← List.map_reverse]
  have hcl := cut_len (xs := cut ([1, 2, 3, 4, 1, 2, 3, 4, 1, 2, 3, 4] : List Int) (some (a % 4)) none) (n := b % 6) (Int.emod_nonneg b (by decide))
  have hb6 := Int.emod_lt_of_pos b (show (0 : Int) < 6 by decide)
  generalize cut (cut ([1, 2, 3, 4, 1, 2, 3, 4, 1, 2, 3, 4] : List Int) (some (a % 4)) none) none (some (b % 6)) = cs at hcl
  have hcl6 : cs.length ≤ 6 := by omega
  refine ⟨divW (by decide) (by decide), by decide, ite_any (fun _ => ?_) fun _ => ?_⟩
  · have hcr : cs.reverse.length ≤ 6 := by rw [List.length_reverse]; exact hcl6
    generalize cs.reverse = cs at hcr
    refine lc_all (fun _ y => isPr y) _ (fun x hx N R hR => ?_) fun ys hys => ?_
    · obtain ⟨j, hj, c, rfl⟩ := enumP_ints hx
      simp only [zsp, zSs, zS, zE, zEs, zT, zBoVs, zBoTs, zA, zIfs, zI, zO, zG, zGs, zsCons, zsNil, zsIf, zsRet, zsRetN, zsExpr, zsAsg, zsPar, zsFor, zsSet, zsSetL, zsPass, zsBreak, zsCont, zsFrz, zEnds, zstart, z1, z2, zVar, zGet, zCst, zChain_eq, onB_bl, tOf, zNotT, zBoT, zBoV, zIf, zNil, zCons, zTup, zPart, zNoPart, zSl, zSlL, zCB, zCBL, zBF, zLM, LM.ty, IC.pv, zAbs, zList, zIsi, zVal, zRng1, zRng2, zEnum, Zz.gNm, Zz.gNil, Zz.gCons, Zz.gTup, zCall, zMt, zAppend, zExtend, zInsert, zPop, zReverse, zRev, zDct0, zDctK, zDctT, zYes, zLc, zwipe, zCmp, zEq, zIs, isNonP, List.map_cons, List.map_nil, List.cons_append, List.nil_append, List.replicate_succ, List.replicate_zero, List.length_cons, List.length_nil, List.set_cons_zero, List.set_cons_succ, List.getElem?_cons_zero, List.getElem?_cons_succ, Option.join_some, Nat.reduceAdd, Nat.reduceSub, Nat.zero_add, isiB, Bool.not_eq_true', decide_eq_false_iff_not, decide_eq_true_eq,  tyP_non, isDct_non, rs_non, tyP_bl, isDct_bl, rs_bl, tyP_int, isDct_int, rs_int, tyP_str, isDct_str, rs_str, tyP_tup, isDct_tup, rs_tup, tyP_lst, isDct_lst, rs_lst, tyP_rol, isDct_rol, rs_rol, tyP_dct, isDct_dct, rs_dct, asL_lst, asL_rol, asS_lst, asS_rol, asS_tup, asW_lst, asT_tup, asL_mset, asS_mset, asW_mset, refL_mset, isDct_mset, tyP_mset, rs_mset, Option.some.injEq, exists_eq_left', true_and, and_true, Bool.not_true, Bool.not_false, Bool.false_eq_true, if_true, if_false, ite_true, ite_false, String.reduceBEq, Bool.or_false, Bool.or_true, Bool.false_or, Bool.true_or, Bool.and_false, Bool.and_true, Bool.true_and, Bool.false_and, reduceIte, PV.int.injEq, exists_const, PV.tup.injEq, PV.lst.injEq, PV.ref.injEq, PV.ty.injEq, zIn, List.all_cons, List.all_nil, List.any_cons, List.any_nil, atP_0, atP_1, atP_2, flat_ints, Zz.any_ints, Nat.zero_le, IC.v, Nat.reduceLeDiff, forall_const, mset_mset, not_true_eq_false, not_false_eq_true, cpow9, pow9, cpow18, pow18, cpow30, pow30, ex2, Bool.true_eq_false, Int.cast_ofNat_Int, Int.ofNat_eq_natCast, flatP_non, flatP_bl, flatP_int, flatP_str, flatP_tup, flatP_lst, flatP_dct, eqF_ss, eqF_ii, eqF_bb, zB_Add_i, zB_Sub_i, zB_Mult_i, zB_FloorDiv_i, zB_Mod_i, zB_Pow_i, zB_BitAnd_i, zB_BitOr_i, zB_Add_s, zB_Add_t, zB_Add_l, zB_Mul_l, zIx_tup, zIx_lst, zIx_rol, zIx_str, zIx_mset, zLen_tup, zLen_lst, zLen_rol, zLen_str, zLen_mset, zInt_i, zInt_b, zTuple_t, zTuple_l, zTuple_m, zMax_ii, zMin_ii, zNeg_i, zNotV_b, zAllAny_l, wL_mset, szl0, szl1, szl2, szl3, szl4, szl5, szl6, szl7, szl8, szl9, szl10, szl11, szl12, szl13, szl14, szl15, szl16, szl17, szl18, szl19, szl20, szl21, szl22, szl23, szl24, szl25, szl26, szl27, szl28, szl29, szl30, szl31, szl32, szl33, szl34, szl35, szl36, szl37, szl38, szl39, szl40, szl41, szl42, szl43, szl44, szl45, szl46, szl47, szl48, szl49, szl50, szl51, szl52, szl53, szl54, szl55, szl56, szl57, szl58, szl59, szl60, szl61, szl62, szl63, szl64, szl65, szl66, szl67, szl68, szl69, frzV_ref, zfrz, Option.map_some, Option.map_none, frzV_non, frzV_bl, frzV_int, frzV_str, frzV_tup, frzV_lst, frzV_rol, frzV_dct]
      refine atP_int hn (by omega) (by omega) fun d _ => ?_
      simp only [zsp, zSs, zS, zE, zEs, zT, zBoVs, zBoTs, zA, zIfs, zI, zO, zG, zGs, zsCons, zsNil, zsIf, zsRet, zsRetN, zsExpr, zsAsg, zsPar, zsFor, zsSet, zsSetL, zsPass, zsBreak, zsCont, zsFrz, zEnds, zstart, z1, z2, zVar, zGet, zCst, zChain_eq, onB_bl, tOf, zNotT, zBoT, zBoV, zIf, zNil, zCons, zTup, zPart, zNoPart, zSl, zSlL, zCB, zCBL, zBF, zLM, LM.ty, IC.pv, zAbs, zList, zIsi, zVal, zRng1, zRng2, zEnum, Zz.gNm, Zz.gNil, Zz.gCons, Zz.gTup, zCall, zMt, zAppend, zExtend, zInsert, zPop, zReverse, zRev, zDct0, zDctK, zDctT, zYes, zLc, zwipe, zCmp, zEq, zIs, isNonP, List.map_cons, List.map_nil, List.cons_append, List.nil_append, List.replicate_succ, List.replicate_zero, List.length_cons, List.length_nil, List.set_cons_zero, List.set_cons_succ, List.getElem?_cons_zero, List.getElem?_cons_succ, Option.join_some, Nat.reduceAdd, Nat.reduceSub, Nat.zero_add, isiB, Bool.not_eq_true', decide_eq_false_iff_not, decide_eq_true_eq,  tyP_non, isDct_non, rs_non, tyP_bl, isDct_bl, rs_bl, tyP_int, isDct_int, rs_int, tyP_str, isDct_str, rs_str, tyP_tup, isDct_tup, rs_tup, tyP_lst, isDct_lst, rs_lst, tyP_rol, isDct_rol, rs_rol, tyP_dct, isDct_dct, rs_dct, asL_lst, asL_rol, asS_lst, asS_rol, asS_tup, asW_lst, asT_tup, asL_mset, asS_mset, asW_mset, refL_mset, isDct_mset, tyP_mset, rs_mset, Option.some.injEq, exists_eq_left', true_and, and_true, Bool.not_true, Bool.not_false, Bool.false_eq_true, if_true, if_false, ite_true, ite_false, String.reduceBEq, Bool.or_false, Bool.or_true, Bool.false_or, Bool.true_or, Bool.and_false, Bool.and_true, Bool.true_and, Bool.false_and, reduceIte, PV.int.injEq, exists_const, PV.tup.injEq, PV.lst.injEq, PV.ref.injEq, PV.ty.injEq, zIn, List.all_cons, List.all_nil, List.any_cons, List.any_nil, atP_0, atP_1, atP_2, flat_ints, Zz.any_ints, Nat.zero_le, IC.v, Nat.reduceLeDiff, forall_const, mset_mset, not_true_eq_false, not_false_eq_true, cpow9, pow9, cpow18, pow18, cpow30, pow30, ex2, Bool.true_eq_false, Int.cast_ofNat_Int, Int.ofNat_eq_natCast, flatP_non, flatP_bl, flatP_int, flatP_str, flatP_tup, flatP_lst, flatP_dct, eqF_ss, eqF_ii, eqF_bb, zB_Add_i, zB_Sub_i, zB_Mult_i, zB_FloorDiv_i, zB_Mod_i, zB_Pow_i, zB_BitAnd_i, zB_BitOr_i, zB_Add_s, zB_Add_t, zB_Add_l, zB_Mul_l, zIx_tup, zIx_lst, zIx_rol, zIx_str, zIx_mset, zLen_tup, zLen_lst, zLen_rol, zLen_str, zLen_mset, zInt_i, zInt_b, zTuple_t, zTuple_l, zTuple_m, zMax_ii, zMin_ii, zNeg_i, zNotV_b, zAllAny_l, wL_mset, szl0, szl1, szl2, szl3, szl4, szl5, szl6, szl7, szl8, szl9, szl10, szl11, szl12, szl13, szl14, szl15, szl16, szl17, szl18, szl19, szl20, szl21, szl22, szl23, szl24, szl25, szl26, szl27, szl28, szl29, szl30, szl31, szl32, szl33, szl34, szl35, szl36, szl37, szl38, szl39, szl40, szl41, szl42, szl43, szl44, szl45, szl46, szl47, szl48, szl49, szl50, szl51, szl52, szl53, szl54, szl55, szl56, szl57, szl58, szl59, szl60, szl61, szl62, szl63, szl64, szl65, szl66, szl67, szl68, szl69, frzV_ref, zfrz, Option.map_some, Option.map_none, frzV_non, frzV_bl, frzV_int, frzV_str, frzV_tup, frzV_lst, frzV_rol, frzV_dct]
      refine ⟨by decide, atP_mod (by decide) (by decide) fun w hw => hR _ ⟨c, ?_⟩⟩
      simp only [List.mem_cons, List.not_mem_nil, or_false] at hw
      rcases hw with rfl | rfl
      · exact ⟨_, rfl, by decide +kernel⟩
      · exact ⟨_, rfl, by decide +kernel⟩
    · have hyl := forall2_len hys
      rw [enumP_len, List.length_map] at hyl
      have hyl' : ys.length ≤ 6 := by omega
      have hat : ∀ y ∈ ys, isPr y := forall2_mem hys (fun _ _ _ h => h)
      have hys2 : pls ys = true := pls_all fun y hy => isPr_pl (hat y hy)
      refine ⟨Nat.le_trans hyl' (by decide), fun p hp => atP_int hn (by decide) (by omega) fun a ha => ?_⟩
      simp only [mdel_mset hp, zsp, zSs, zS, zE, zEs, zT, zBoVs, zBoTs, zA, zIfs, zI, zO, zG, zGs, zsCons, zsNil, zsIf, zsRet, zsRetN, zsExpr, zsAsg, zsPar, zsFor, zsSet, zsSetL, zsPass, zsBreak, zsCont, zsFrz, zEnds, zstart, z1, z2, zVar, zGet, zCst, zChain_eq, onB_bl, tOf, zNotT, zBoT, zBoV, zIf, zNil, zCons, zTup, zPart, zNoPart, zSl, zSlL, zCB, zCBL, zBF, zLM, LM.ty, IC.pv, zAbs, zList, zIsi, zVal, zRng1, zRng2, zEnum, Zz.gNm, Zz.gNil, Zz.gCons, Zz.gTup, zCall, zMt, zAppend, zExtend, zInsert, zPop, zReverse, zRev, zDct0, zDctK, zDctT, zYes, zLc, zwipe, zCmp, zEq, zIs, isNonP, List.map_cons, List.map_nil, List.cons_append, List.nil_append, List.replicate_succ, List.replicate_zero, List.length_cons, List.length_nil, List.set_cons_zero, List.set_cons_succ, List.getElem?_cons_zero, List.getElem?_cons_succ, Option.join_some, Nat.reduceAdd, Nat.reduceSub, Nat.zero_add, isiB, Bool.not_eq_true', decide_eq_false_iff_not, decide_eq_true_eq,  tyP_non, isDct_non, rs_non, tyP_bl, isDct_bl, rs_bl, tyP_int, isDct_int, rs_int, tyP_str, isDct_str, rs_str, tyP_tup, isDct_tup, rs_tup, tyP_lst, isDct_lst, rs_lst, tyP_rol, isDct_rol, rs_rol, tyP_dct, isDct_dct, rs_dct, asL_lst, asL_rol, asS_lst, asS_rol, asS_tup, asW_lst, asT_tup, asL_mset, asS_mset, asW_mset, refL_mset, isDct_mset, tyP_mset, rs_mset, Option.some.injEq, exists_eq_left', true_and, and_true, Bool.not_true, Bool.not_false, Bool.false_eq_true, if_true, if_false, ite_true, ite_false, String.reduceBEq, Bool.or_false, Bool.or_true, Bool.false_or, Bool.true_or, Bool.and_false, Bool.and_true, Bool.true_and, Bool.false_and, reduceIte, PV.int.injEq, exists_const, PV.tup.injEq, PV.lst.injEq, PV.ref.injEq, PV.ty.injEq, zIn, List.all_cons, List.all_nil, List.any_cons, List.any_nil, atP_0, atP_1, atP_2, flat_ints, Zz.any_ints, Nat.zero_le, IC.v, Nat.reduceLeDiff, forall_const, mset_mset, not_true_eq_false, not_false_eq_true, cpow9, pow9, cpow18, pow18, cpow30, pow30, ex2, Bool.true_eq_false, Int.cast_ofNat_Int, Int.ofNat_eq_natCast, flatP_non, flatP_bl, flatP_int, flatP_str, flatP_tup, flatP_lst, flatP_dct, eqF_ss, eqF_ii, eqF_bb, zB_Add_i, zB_Sub_i, zB_Mult_i, zB_FloorDiv_i, zB_Mod_i, zB_Pow_i, zB_BitAnd_i, zB_BitOr_i, zB_Add_s, zB_Add_t, zB_Add_l, zB_Mul_l, zIx_tup, zIx_lst, zIx_rol, zIx_str, zIx_mset, zLen_tup, zLen_lst, zLen_rol, zLen_str, zLen_mset, zInt_i, zInt_b, zTuple_t, zTuple_l, zTuple_m, zMax_ii, zMin_ii, zNeg_i, zNotV_b, zAllAny_l, wL_mset, szl0, szl1, szl2, szl3, szl4, szl5, szl6, szl7, szl8, szl9, szl10, szl11, szl12, szl13, szl14, szl15, szl16, szl17, szl18, szl19, szl20, szl21, szl22, szl23, szl24, szl25, szl26, szl27, szl28, szl29, szl30, szl31, szl32, szl33, szl34, szl35, szl36, szl37, szl38, szl39, szl40, szl41, szl42, szl43, szl44, szl45, szl46, szl47, szl48, szl49, szl50, szl51, szl52, szl53, szl54, szl55, szl56, szl57, szl58, szl59, szl60, szl61, szl62, szl63, szl64, szl65, szl66, szl67, szl68, szl69, frzV_ref, zfrz, Option.map_some, Option.map_none, frzV_non, frzV_bl, frzV_int, frzV_str, frzV_tup, frzV_lst, frzV_rol, frzV_dct]
      have fin : ∀ zs : List PV, pls zs = true → zs.length ≤ 6 → atP (ns.map .int) 1 fun y => ZCall T (k + 2) "_law_within" [.lst zs, y] M (fun x M => ∃ M', subM M' M ∧ Q x M') fun C fs M2 => X C fs M2 := fun zs hz hzl =>
        atP_int hn (by decide) (by omega) fun b _ => sp_L_within E hz (by omega) fun v hv => ret_same (q v hv)
      refine ⟨by decide, ite_any (fun _ => ⟨okD_gd (n := 2) (by unfold gd; exact gds_all fun y hy => isPr_gd (hat y hy)) (by decide), okD_nil, ite_any (fun hne => ?_) fun _ => fin ys hys2 hyl'⟩) fun _ => fin ys hys2 hyl'⟩
      refine atP_int hn (by decide) (by omega) fun c hc => ?_
      have hpos : 0 < ys.length := by
        cases ys with
        | nil => rw [eqv_nil] at hne; cases hne
        | cons a l => simp
      simp only [zsp, zSs, zS, zE, zEs, zT, zBoVs, zBoTs, zA, zIfs, zI, zO, zG, zGs, zsCons, zsNil, zsIf, zsRet, zsRetN, zsExpr, zsAsg, zsPar, zsFor, zsSet, zsSetL, zsPass, zsBreak, zsCont, zsFrz, zEnds, zstart, z1, z2, zVar, zGet, zCst, zChain_eq, onB_bl, tOf, zNotT, zBoT, zBoV, zIf, zNil, zCons, zTup, zPart, zNoPart, zSl, zSlL, zCB, zCBL, zBF, zLM, LM.ty, IC.pv, zAbs, zList, zIsi, zVal, zRng1, zRng2, zEnum, Zz.gNm, Zz.gNil, Zz.gCons, Zz.gTup, zCall, zMt, zAppend, zExtend, zInsert, zPop, zReverse, zRev, zDct0, zDctK, zDctT, zYes, zLc, zwipe, zCmp, zEq, zIs, isNonP, List.map_cons, List.map_nil, List.cons_append, List.nil_append, List.replicate_succ, List.replicate_zero, List.length_cons, List.length_nil, List.set_cons_zero, List.set_cons_succ, List.getElem?_cons_zero, List.getElem?_cons_succ, Option.join_some, Nat.reduceAdd, Nat.reduceSub, Nat.zero_add, isiB, Bool.not_eq_true', decide_eq_false_iff_not, decide_eq_true_eq,  tyP_non, isDct_non, rs_non, tyP_bl, isDct_bl, rs_bl, tyP_int, isDct_int, rs_int, tyP_str, isDct_str, rs_str, tyP_tup, isDct_tup, rs_tup, tyP_lst, isDct_lst, rs_lst, tyP_rol, isDct_rol, rs_rol, tyP_dct, isDct_dct, rs_dct, asL_lst, asL_rol, asS_lst, asS_rol, asS_tup, asW_lst, asT_tup, asL_mset, asS_mset, asW_mset, refL_mset, isDct_mset, tyP_mset, rs_mset, Option.some.injEq, exists_eq_left', true_and, and_true, Bool.not_true, Bool.not_false, Bool.false_eq_true, if_true, if_false, ite_true, ite_false, String.reduceBEq, Bool.or_false, Bool.or_true, Bool.false_or, Bool.true_or, Bool.and_false, Bool.and_true, Bool.true_and, Bool.false_and, reduceIte, PV.int.injEq, exists_const, PV.tup.injEq, PV.lst.injEq, PV.ref.injEq, PV.ty.injEq, zIn, List.all_cons, List.all_nil, List.any_cons, List.any_nil, atP_0, atP_1, atP_2, flat_ints, Zz.any_ints, Nat.zero_le, IC.v, Nat.reduceLeDiff, forall_const, mset_mset, not_true_eq_false, not_false_eq_true, cpow9, pow9, cpow18, pow18, cpow30, pow30, ex2, Bool.true_eq_false, Int.cast_ofNat_Int, Int.ofNat_eq_natCast, flatP_non, flatP_bl, flatP_int, flatP_str, flatP_tup, flatP_lst, flatP_dct, eqF_ss, eqF_ii, eqF_bb, zB_Add_i, zB_Sub_i, zB_Mult_i, zB_FloorDiv_i, zB_Mod_i, zB_Pow_i, zB_BitAnd_i, zB_BitOr_i, zB_Add_s, zB_Add_t, zB_Add_l, zB_Mul_l, zIx_tup, zIx_lst, zIx_rol, zIx_str, zIx_mset, zLen_tup, zLen_lst, zLen_rol, zLen_str, zLen_mset, zInt_i, zInt_b, zTuple_t, zTuple_l, zTuple_m, zMax_ii, zMin_ii, zNeg_i, zNotV_b, zAllAny_l, wL_mset, szl0, szl1, szl2, szl3, szl4, szl5, szl6, szl7, szl8, szl9, szl10, szl11, szl12, szl13, szl14, szl15, szl16, szl17, szl18, szl19, szl20, szl21, szl22, szl23, szl24, szl25, szl26, szl27, szl28, szl29, szl30, szl31, szl32, szl33, szl34, szl35, szl36, szl37, szl38, szl39, szl40, szl41, szl42, szl43, szl44, szl45, szl46, szl47, szl48, szl49, szl50, szl51, szl52, szl53, szl54, szl55, szl56, szl57, szl58, szl59, szl60, szl61, szl62, szl63, szl64, szl65, szl66, szl67, szl68, szl69, frzV_ref, zfrz, Option.map_some, Option.map_none, frzV_non, frzV_bl, frzV_int, frzV_str, frzV_tup, frzV_lst, frzV_rol, frzV_dct]
      refine ⟨divW (by decide) (by decide), by omega, atP_mod (by omega) (by omega) fun y hy => ?_⟩
      obtain ⟨c1, w1, rfl, _⟩ := hat y hy
      simp only [zsp, zSs, zS, zE, zEs, zT, zBoVs, zBoTs, zA, zIfs, zI, zO, zG, zGs, zsCons, zsNil, zsIf, zsRet, zsRetN, zsExpr, zsAsg, zsPar, zsFor, zsSet, zsSetL, zsPass, zsBreak, zsCont, zsFrz, zEnds, zstart, z1, z2, zVar, zGet, zCst, zChain_eq, onB_bl, tOf, zNotT, zBoT, zBoV, zIf, zNil, zCons, zTup, zPart, zNoPart, zSl, zSlL, zCB, zCBL, zBF, zLM, LM.ty, IC.pv, zAbs, zList, zIsi, zVal, zRng1, zRng2, zEnum, Zz.gNm, Zz.gNil, Zz.gCons, Zz.gTup, zCall, zMt, zAppend, zExtend, zInsert, zPop, zReverse, zRev, zDct0, zDctK, zDctT, zYes, zLc, zwipe, zCmp, zEq, zIs, isNonP, List.map_cons, List.map_nil, List.cons_append, List.nil_append, List.replicate_succ, List.replicate_zero, List.length_cons, List.length_nil, List.set_cons_zero, List.set_cons_succ, List.getElem?_cons_zero, List.getElem?_cons_succ, Option.join_some, Nat.reduceAdd, Nat.reduceSub, Nat.zero_add, isiB, Bool.not_eq_true', decide_eq_false_iff_not, decide_eq_true_eq,  tyP_non, isDct_non, rs_non, tyP_bl, isDct_bl, rs_bl, tyP_int, isDct_int, rs_int, tyP_str, isDct_str, rs_str, tyP_tup, isDct_tup, rs_tup, tyP_lst, isDct_lst, rs_lst, tyP_rol, isDct_rol, rs_rol, tyP_dct, isDct_dct, rs_dct, asL_lst, asL_rol, asS_lst, asS_rol, asS_tup, asW_lst, asT_tup, asL_mset, asS_mset, asW_mset, refL_mset, isDct_mset, tyP_mset, rs_mset, Option.some.injEq, exists_eq_left', true_and, and_true, Bool.not_true, Bool.not_false, Bool.false_eq_true, if_true, if_false, ite_true, ite_false, String.reduceBEq, Bool.or_false, Bool.or_true, Bool.false_or, Bool.true_or, Bool.and_false, Bool.and_true, Bool.true_and, Bool.false_and, reduceIte, PV.int.injEq, exists_const, PV.tup.injEq, PV.lst.injEq, PV.ref.injEq, PV.ty.injEq, zIn, List.all_cons, List.all_nil, List.any_cons, List.any_nil, atP_0, atP_1, atP_2, flat_ints, Zz.any_ints, Nat.zero_le, IC.v, Nat.reduceLeDiff, forall_const, mset_mset, not_true_eq_false, not_false_eq_true, cpow9, pow9, cpow18, pow18, cpow30, pow30, ex2, Bool.true_eq_false, Int.cast_ofNat_Int, Int.ofNat_eq_natCast, flatP_non, flatP_bl, flatP_int, flatP_str, flatP_tup, flatP_lst, flatP_dct, eqF_ss, eqF_ii, eqF_bb, zB_Add_i, zB_Sub_i, zB_Mult_i, zB_FloorDiv_i, zB_Mod_i, zB_Pow_i, zB_BitAnd_i, zB_BitOr_i, zB_Add_s, zB_Add_t, zB_Add_l, zB_Mul_l, zIx_tup, zIx_lst, zIx_rol, zIx_str, zIx_mset, zLen_tup, zLen_lst, zLen_rol, zLen_str, zLen_mset, zInt_i, zInt_b, zTuple_t, zTuple_l, zTuple_m, zMax_ii, zMin_ii, zNeg_i, zNotV_b, zAllAny_l, wL_mset, szl0, szl1, szl2, szl3, szl4, szl5, szl6, szl7, szl8, szl9, szl10, szl11, szl12, szl13, szl14, szl15, szl16, szl17, szl18, szl19, szl20, szl21, szl22, szl23, szl24, szl25, szl26, szl27, szl28, szl29, szl30, szl31, szl32, szl33, szl34, szl35, szl36, szl37, szl38, szl39, szl40, szl41, szl42, szl43, szl44, szl45, szl46, szl47, szl48, szl49, szl50, szl51, szl52, szl53, szl54, szl55, szl56, szl57, szl58, szl59, szl60, szl61, szl62, szl63, szl64, szl65, szl66, szl67, szl68, szl69, frzV_ref, zfrz, Option.map_some, Option.map_none, frzV_non, frzV_bl, frzV_int, frzV_str, frzV_tup, frzV_lst, frzV_rol, frzV_dct]
      refine atP_mod (by omega) (by omega) fun y hy => ?_
      obtain ⟨c2, w2, rfl, _⟩ := hat y hy
      simp only [zsp, zSs, zS, zE, zEs, zT, zBoVs, zBoTs, zA, zIfs, zI, zO, zG, zGs, zsCons, zsNil, zsIf, zsRet, zsRetN, zsExpr, zsAsg, zsPar, zsFor, zsSet, zsSetL, zsPass, zsBreak, zsCont, zsFrz, zEnds, zstart, z1, z2, zVar, zGet, zCst, zChain_eq, onB_bl, tOf, zNotT, zBoT, zBoV, zIf, zNil, zCons, zTup, zPart, zNoPart, zSl, zSlL, zCB, zCBL, zBF, zLM, LM.ty, IC.pv, zAbs, zList, zIsi, zVal, zRng1, zRng2, zEnum, Zz.gNm, Zz.gNil, Zz.gCons, Zz.gTup, zCall, zMt, zAppend, zExtend, zInsert, zPop, zReverse, zRev, zDct0, zDctK, zDctT, zYes, zLc, zwipe, zCmp, zEq, zIs, isNonP, List.map_cons, List.map_nil, List.cons_append, List.nil_append, List.replicate_succ, List.replicate_zero, List.length_cons, List.length_nil, List.set_cons_zero, List.set_cons_succ, List.getElem?_cons_zero, List.getElem?_cons_succ, Option.join_some, Nat.reduceAdd, Nat.reduceSub, Nat.zero_add, isiB, Bool.not_eq_true', decide_eq_false_iff_not, decide_eq_true_eq,  tyP_non, isDct_non, rs_non, tyP_bl, isDct_bl, rs_bl, tyP_int, isDct_int, rs_int, tyP_str, isDct_str, rs_str, tyP_tup, isDct_tup, rs_tup, tyP_lst, isDct_lst, rs_lst, tyP_rol, isDct_rol, rs_rol, tyP_dct, isDct_dct, rs_dct, asL_lst, asL_rol, asS_lst, asS_rol, asS_tup, asW_lst, asT_tup, asL_mset, asS_mset, asW_mset, refL_mset, isDct_mset, tyP_mset, rs_mset, Option.some.injEq, exists_eq_left', true_and, and_true, Bool.not_true, Bool.not_false, Bool.false_eq_true, if_true, if_false, ite_true, ite_false, String.reduceBEq, Bool.or_false, Bool.or_true, Bool.false_or, Bool.true_or, Bool.and_false, Bool.and_true, Bool.true_and, Bool.false_and, reduceIte, PV.int.injEq, exists_const, PV.tup.injEq, PV.lst.injEq, PV.ref.injEq, PV.ty.injEq, zIn, List.all_cons, List.all_nil, List.any_cons, List.any_nil, atP_0, atP_1, atP_2, flat_ints, Zz.any_ints, Nat.zero_le, IC.v, Nat.reduceLeDiff, forall_const, mset_mset, not_true_eq_false, not_false_eq_true, cpow9, pow9, cpow18, pow18, cpow30, pow30, ex2, Bool.true_eq_false, Int.cast_ofNat_Int, Int.ofNat_eq_natCast, flatP_non, flatP_bl, flatP_int, flatP_str, flatP_tup, flatP_lst, flatP_dct, eqF_ss, eqF_ii, eqF_bb, zB_Add_i, zB_Sub_i, zB_Mult_i, zB_FloorDiv_i, zB_Mod_i, zB_Pow_i, zB_BitAnd_i, zB_BitOr_i, zB_Add_s, zB_Add_t, zB_Add_l, zB_Mul_l, zIx_tup, zIx_lst, zIx_rol, zIx_str, zIx_mset, zLen_tup, zLen_lst, zLen_rol, zLen_str, zLen_mset, zInt_i, zInt_b, zTuple_t, zTuple_l, zTuple_m, zMax_ii, zMin_ii, zNeg_i, zNotV_b, zAllAny_l, wL_mset, szl0, szl1, szl2, szl3, szl4, szl5, szl6, szl7, szl8, szl9, szl10, szl11, szl12, szl13, szl14, szl15, szl16, szl17, szl18, szl19, szl20, szl21, szl22, szl23, szl24, szl25, szl26, szl27, szl28, szl29, szl30, szl31, szl32, szl33, szl34, szl35, szl36, szl37, szl38, szl39, szl40, szl41, szl42, szl43, szl44, szl45, szl46, szl47, szl48, szl49, szl50, szl51, szl52, szl53, szl54, szl55, szl56, szl57, szl58, szl59, szl60, szl61, szl62, szl63, szl64, szl65, szl66, szl67, szl68, szl69, frzV_ref, zfrz, Option.map_some, Option.map_none, frzV_non, frzV_bl, frzV_int, frzV_str, frzV_tup, frzV_lst, frzV_rol, frzV_dct]
      refine atP_int hn (by decide) (by omega) fun d hd => atP_int hn (by decide) (by omega) fun e he => sp_L_other_part E rfl rfl fun w hw => ?_
      refine dPut_no (Int.emod_nonneg _ (by omega)) (Int.emod_lt_of_pos _ (by omega)) fun j hj => ?_
      simp only [mdel_mset hp, zsp, zSs, zS, zE, zEs, zT, zBoVs, zBoTs, zA, zIfs, zI, zO, zG, zGs, zsCons, zsNil, zsIf, zsRet, zsRetN, zsExpr, zsAsg, zsPar, zsFor, zsSet, zsSetL, zsPass, zsBreak, zsCont, zsFrz, zEnds, zstart, z1, z2, zVar, zGet, zCst, zChain_eq, onB_bl, tOf, zNotT, zBoT, zBoV, zIf, zNil, zCons, zTup, zPart, zNoPart, zSl, zSlL, zCB, zCBL, zBF, zLM, LM.ty, IC.pv, zAbs, zList, zIsi, zVal, zRng1, zRng2, zEnum, Zz.gNm, Zz.gNil, Zz.gCons, Zz.gTup, zCall, zMt, zAppend, zExtend, zInsert, zPop, zReverse, zRev, zDct0, zDctK, zDctT, zYes, zLc, zwipe, zCmp, zEq, zIs, isNonP, List.map_cons, List.map_nil, List.cons_append, List.nil_append, List.replicate_succ, List.replicate_zero, List.length_cons, List.length_nil, List.set_cons_zero, List.set_cons_succ, List.getElem?_cons_zero, List.getElem?_cons_succ, Option.join_some, Nat.reduceAdd, Nat.reduceSub, Nat.zero_add, isiB, Bool.not_eq_true', decide_eq_false_iff_not, decide_eq_true_eq,  tyP_non, isDct_non, rs_non, tyP_bl, isDct_bl, rs_bl, tyP_int, isDct_int, rs_int, tyP_str, isDct_str, rs_str, tyP_tup, isDct_tup, rs_tup, tyP_lst, isDct_lst, rs_lst, tyP_rol, isDct_rol, rs_rol, tyP_dct, isDct_dct, rs_dct, asL_lst, asL_rol, asS_lst, asS_rol, asS_tup, asW_lst, asT_tup, asL_mset, asS_mset, asW_mset, refL_mset, isDct_mset, tyP_mset, rs_mset, Option.some.injEq, exists_eq_left', true_and, and_true, Bool.not_true, Bool.not_false, Bool.false_eq_true, if_true, if_false, ite_true, ite_false, String.reduceBEq, Bool.or_false, Bool.or_true, Bool.false_or, Bool.true_or, Bool.and_false, Bool.and_true, Bool.true_and, Bool.false_and, reduceIte, PV.int.injEq, exists_const, PV.tup.injEq, PV.lst.injEq, PV.ref.injEq, PV.ty.injEq, zIn, List.all_cons, List.all_nil, List.any_cons, List.any_nil, atP_0, atP_1, atP_2, flat_ints, Zz.any_ints, Nat.zero_le, IC.v, Nat.reduceLeDiff, forall_const, mset_mset, not_true_eq_false, not_false_eq_true, cpow9, pow9, cpow18, pow18, cpow30, pow30, ex2, Bool.true_eq_false, Int.cast_ofNat_Int, Int.ofNat_eq_natCast, flatP_non, flatP_bl, flatP_int, flatP_str, flatP_tup, flatP_lst, flatP_dct, eqF_ss, eqF_ii, eqF_bb, zB_Add_i, zB_Sub_i, zB_Mult_i, zB_FloorDiv_i, zB_Mod_i, zB_Pow_i, zB_BitAnd_i, zB_BitOr_i, zB_Add_s, zB_Add_t, zB_Add_l, zB_Mul_l, zIx_tup, zIx_lst, zIx_rol, zIx_str, zIx_mset, zLen_tup, zLen_lst, zLen_rol, zLen_str, zLen_mset, zInt_i, zInt_b, zTuple_t, zTuple_l, zTuple_m, zMax_ii, zMin_ii, zNeg_i, zNotV_b, zAllAny_l, wL_mset, szl0, szl1, szl2, szl3, szl4, szl5, szl6, szl7, szl8, szl9, szl10, szl11, szl12, szl13, szl14, szl15, szl16, szl17, szl18, szl19, szl20, szl21, szl22, szl23, szl24, szl25, szl26, szl27, szl28, szl29, szl30, szl31, szl32, szl33, szl34, szl35, szl36, szl37, szl38, szl39, szl40, szl41, szl42, szl43, szl44, szl45, szl46, szl47, szl48, szl49, szl50, szl51, szl52, szl53, szl54, szl55, szl56, szl57, szl58, szl59, szl60, szl61, szl62, szl63, szl64, szl65, szl66, szl67, szl68, szl69, frzV_ref, zfrz, Option.map_some, Option.map_none, frzV_non, frzV_bl, frzV_int, frzV_str, frzV_tup, frzV_lst, frzV_rol, frzV_dct]
      refine fin _ (pls_all fun y hy => ?_) (by rw [List.length_set]; exact hyl')
      rcases List.mem_or_eq_of_mem_set hy with h | h
      · exact isPr_pl (hat y h)
      · subst h; exact hw
  · have hcr := hcl6
    refine lc_all (fun _ y => isPr y) _ (fun x hx N R hR => ?_) fun ys hys => ?_
    · obtain ⟨j, hj, c, rfl⟩ := enumP_ints hx
      simp only [zsp, zSs, zS, zE, zEs, zT, zBoVs, zBoTs, zA, zIfs, zI, zO, zG, zGs, zsCons, zsNil, zsIf, zsRet, zsRetN, zsExpr, zsAsg, zsPar, zsFor, zsSet, zsSetL, zsPass, zsBreak, zsCont, zsFrz, zEnds, zstart, z1, z2, zVar, zGet, zCst, zChain_eq, onB_bl, tOf, zNotT, zBoT, zBoV, zIf, zNil, zCons, zTup, zPart, zNoPart, zSl, zSlL, zCB, zCBL, zBF, zLM, LM.ty, IC.pv, zAbs, zList, zIsi, zVal, zRng1, zRng2, zEnum, Zz.gNm, Zz.gNil, Zz.gCons, Zz.gTup, zCall, zMt, zAppend, zExtend, zInsert, zPop, zReverse, zRev, zDct0, zDctK, zDctT, zYes, zLc, zwipe, zCmp, zEq, zIs, isNonP, List.map_cons, List.map_nil, List.cons_append, List.nil_append, List.replicate_succ, List.replicate_zero, List.length_cons, List.length_nil, List.set_cons_zero, List.set_cons_succ, List.getElem?_cons_zero, List.getElem?_cons_succ, Option.join_some, Nat.reduceAdd, Nat.reduceSub, Nat.zero_add, isiB, Bool.not_eq_true', decide_eq_false_iff_not, decide_eq_true_eq,  tyP_non, isDct_non, rs_non, tyP_bl, isDct_bl, rs_bl, tyP_int, isDct_int, rs_int, tyP_str, isDct_str, rs_str, tyP_tup, isDct_tup, rs_tup, tyP_lst, isDct_lst, rs_lst, tyP_rol, isDct_rol, rs_rol, tyP_dct, isDct_dct, rs_dct, asL_lst, asL_rol, asS_lst, asS_rol, asS_tup, asW_lst, asT_tup, asL_mset, asS_mset, asW_mset, refL_mset, isDct_mset, tyP_mset, rs_mset, Option.some.injEq, exists_eq_left', true_and, and_true, Bool.not_true, Bool.not_false, Bool.false_eq_true, if_true, if_false, ite_true, ite_false, String.reduceBEq, Bool.or_false, Bool.or_true, Bool.false_or, Bool.true_or, Bool.and_false, Bool.and_true, Bool.true_and, Bool.false_and, reduceIte, PV.int.injEq, exists_const, PV.tup.injEq, PV.lst.injEq, PV.ref.injEq, PV.ty.injEq, zIn, List.all_cons, List.all_nil, List.any_cons, List.any_nil, atP_0, atP_1, atP_2, flat_ints, Zz.any_ints, Nat.zero_le, IC.v, Nat.reduceLeDiff, forall_const, mset_mset, not_true_eq_false, not_false_eq_true, cpow9, pow9, cpow18, pow18, cpow30, pow30, ex2, Bool.true_eq_false, Int.cast_ofNat_Int, Int.ofNat_eq_natCast, flatP_non, flatP_bl, flatP_int, flatP_str, flatP_tup, flatP_lst, flatP_dct, eqF_ss, eqF_ii, eqF_bb, zB_Add_i, zB_Sub_i, zB_Mult_i, zB_FloorDiv_i, zB_Mod_i, zB_Pow_i, zB_BitAnd_i, zB_BitOr_i, zB_Add_s, zB_Add_t, zB_Add_l, zB_Mul_l, zIx_tup, zIx_lst, zIx_rol, zIx_str, zIx_mset, zLen_tup, zLen_lst, zLen_rol, zLen_str, zLen_mset, zInt_i, zInt_b, zTuple_t, zTuple_l, zTuple_m, zMax_ii, zMin_ii, zNeg_i, zNotV_b, zAllAny_l, wL_mset, szl0, szl1, szl2, szl3, szl4, szl5, szl6, szl7, szl8, szl9, szl10, szl11, szl12, szl13, szl14, szl15, szl16, szl17, szl18, szl19, szl20, szl21, szl22, szl23, szl24, szl25, szl26, szl27, szl28, szl29, szl30, szl31, szl32, szl33, szl34, szl35, szl36, szl37, szl38, szl39, szl40, szl41, szl42, szl43, szl44, szl45, szl46, szl47, szl48, szl49, szl50, szl51, szl52, szl53, szl54, szl55, szl56, szl57, szl58, szl59, szl60, szl61, szl62, szl63, szl64, szl65, szl66, szl67, szl68, szl69, frzV_ref, zfrz, Option.map_some, Option.map_none, frzV_non, frzV_bl, frzV_int, frzV_str, frzV_tup, frzV_lst, frzV_rol, frzV_dct]
      refine atP_int hn (by omega) (by omega) fun d _ => ?_
      simp only [zsp, zSs, zS, zE, zEs, zT, zBoVs, zBoTs, zA, zIfs, zI, zO, zG, zGs, zsCons, zsNil, zsIf, zsRet, zsRetN, zsExpr, zsAsg, zsPar, zsFor, zsSet, zsSetL, zsPass, zsBreak, zsCont, zsFrz, zEnds, zstart, z1, z2, zVar, zGet, zCst, zChain_eq, onB_bl, tOf, zNotT, zBoT, zBoV, zIf, zNil, zCons, zTup, zPart, zNoPart, zSl, zSlL, zCB, zCBL, zBF, zLM, LM.ty, IC.pv, zAbs, zList, zIsi, zVal, zRng1, zRng2, zEnum, Zz.gNm, Zz.gNil, Zz.gCons, Zz.gTup, zCall, zMt, zAppend, zExtend, zInsert, zPop, zReverse, zRev, zDct0, zDctK, zDctT, zYes, zLc, zwipe, zCmp, zEq, zIs, isNonP, List.map_cons, List.map_nil, List.cons_append, List.nil_append, List.replicate_succ, List.replicate_zero, List.length_cons, List.length_nil, List.set_cons_zero, List.set_cons_succ, List.getElem?_cons_zero, List.getElem?_cons_succ, Option.join_some, Nat.reduceAdd, Nat.reduceSub, Nat.zero_add, isiB, Bool.not_eq_true', decide_eq_false_iff_not, decide_eq_true_eq,  tyP_non, isDct_non, rs_non, tyP_bl, isDct_bl, rs_bl, tyP_int, isDct_int, rs_int, tyP_str, isDct_str, rs_str, tyP_tup, isDct_tup, rs_tup, tyP_lst, isDct_lst, rs_lst, tyP_rol, isDct_rol, rs_rol, tyP_dct, isDct_dct, rs_dct, asL_lst, asL_rol, asS_lst, asS_rol, asS_tup, asW_lst, asT_tup, asL_mset, asS_mset, asW_mset, refL_mset, isDct_mset, tyP_mset, rs_mset, Option.some.injEq, exists_eq_left', true_and, and_true, Bool.not_true, Bool.not_false, Bool.false_eq_true, if_true, if_false, ite_true, ite_false, String.reduceBEq, Bool.or_false, Bool.or_true, Bool.false_or, Bool.true_or, Bool.and_false, Bool.and_true, Bool.true_and, Bool.false_and, reduceIte, PV.int.injEq, exists_const, PV.tup.injEq, PV.lst.injEq, PV.ref.injEq, PV.ty.injEq, zIn, List.all_cons, List.all_nil, List.any_cons, List.any_nil, atP_0, atP_1, atP_2, flat_ints, Zz.any_ints, Nat.zero_le, IC.v, Nat.reduceLeDiff, forall_const, mset_mset, not_true_eq_false, not_false_eq_true, cpow9, pow9, cpow18, pow18, cpow30, pow30, ex2, Bool.true_eq_false, Int.cast_ofNat_Int, Int.ofNat_eq_natCast, flatP_non, flatP_bl, flatP_int, flatP_str, flatP_tup, flatP_lst, flatP_dct, eqF_ss, eqF_ii, eqF_bb, zB_Add_i, zB_Sub_i, zB_Mult_i, zB_FloorDiv_i, zB_Mod_i, zB_Pow_i, zB_BitAnd_i, zB_BitOr_i, zB_Add_s, zB_Add_t, zB_Add_l, zB_Mul_l, zIx_tup, zIx_lst, zIx_rol, zIx_str, zIx_mset, zLen_tup, zLen_lst, zLen_rol, zLen_str, zLen_mset, zInt_i, zInt_b, zTuple_t, zTuple_l, zTuple_m, zMax_ii, zMin_ii, zNeg_i, zNotV_b, zAllAny_l, wL_mset, szl0, szl1, szl2, szl3, szl4, szl5, szl6, szl7, szl8, szl9, szl10, szl11, szl12, szl13, szl14, szl15, szl16, szl17, szl18, szl19, szl20, szl21, szl22, szl23, szl24, szl25, szl26, szl27, szl28, szl29, szl30, szl31, szl32, szl33, szl34, szl35, szl36, szl37, szl38, szl39, szl40, szl41, szl42, szl43, szl44, szl45, szl46, szl47, szl48, szl49, szl50, szl51, szl52, szl53, szl54, szl55, szl56, szl57, szl58, szl59, szl60, szl61, szl62, szl63, szl64, szl65, szl66, szl67, szl68, szl69, frzV_ref, zfrz, Option.map_some, Option.map_none, frzV_non, frzV_bl, frzV_int, frzV_str, frzV_tup, frzV_lst, frzV_rol, frzV_dct]
      refine ⟨by decide, atP_mod (by decide) (by decide) fun w hw => hR _ ⟨c, ?_⟩⟩
      simp only [List.mem_cons, List.not_mem_nil, or_false] at hw
      rcases hw with rfl | rfl
      · exact ⟨_, rfl, by decide +kernel⟩
      · exact ⟨_, rfl, by decide +kernel⟩
    · have hyl := forall2_len hys
      rw [enumP_len, List.length_map] at hyl
      have hyl' : ys.length ≤ 6 := by omega
      have hat : ∀ y ∈ ys, isPr y := forall2_mem hys (fun _ _ _ h => h)
      have hys2 : pls ys = true := pls_all fun y hy => isPr_pl (hat y hy)
      refine ⟨Nat.le_trans hyl' (by decide), fun p hp => atP_int hn (by decide) (by omega) fun a ha => ?_⟩
      simp only [mdel_mset hp, zsp, zSs, zS, zE, zEs, zT, zBoVs, zBoTs, zA, zIfs, zI, zO, zG, zGs, zsCons, zsNil, zsIf, zsRet, zsRetN, zsExpr, zsAsg, zsPar, zsFor, zsSet, zsSetL, zsPass, zsBreak, zsCont, zsFrz, zEnds, zstart, z1, z2, zVar, zGet, zCst, zChain_eq, onB_bl, tOf, zNotT, zBoT, zBoV, zIf, zNil, zCons, zTup, zPart, zNoPart, zSl, zSlL, zCB, zCBL, zBF, zLM, LM.ty, IC.pv, zAbs, zList, zIsi, zVal, zRng1, zRng2, zEnum, Zz.gNm, Zz.gNil, Zz.gCons, Zz.gTup, zCall, zMt, zAppend, zExtend, zInsert, zPop, zReverse, zRev, zDct0, zDctK, zDctT, zYes, zLc, zwipe, zCmp, zEq, zIs, isNonP, List.map_cons, List.map_nil, List.cons_append, List.nil_append, List.replicate_succ, List.replicate_zero, List.length_cons, List.length_nil, List.set_cons_zero, List.set_cons_succ, List.getElem?_cons_zero, List.getElem?_cons_succ, Option.join_some, Nat.reduceAdd, Nat.reduceSub, Nat.zero_add, isiB, Bool.not_eq_true', decide_eq_false_iff_not, decide_eq_true_eq,  tyP_non, isDct_non, rs_non, tyP_bl, isDct_bl, rs_bl, tyP_int, isDct_int, rs_int, tyP_str, isDct_str, rs_str, tyP_tup, isDct_tup, rs_tup, tyP_lst, isDct_lst, rs_lst, tyP_rol, isDct_rol, rs_rol, tyP_dct, isDct_dct, rs_dct, asL_lst, asL_rol, asS_lst, asS_rol, asS_tup, asW_lst, asT_tup, asL_mset, asS_mset, asW_mset, refL_mset, isDct_mset, tyP_mset, rs_mset, Option.some.injEq, exists_eq_left', true_and, and_true, Bool.not_true, Bool.not_false, Bool.false_eq_true, if_true, if_false, ite_true, ite_false, String.reduceBEq, Bool.or_false, Bool.or_true, Bool.false_or, Bool.true_or, Bool.and_false, Bool.and_true, Bool.true_and, Bool.false_and, reduceIte, PV.int.injEq, exists_const, PV.tup.injEq, PV.lst.injEq, PV.ref.injEq, PV.ty.injEq, zIn, List.all_cons, List.all_nil, List.any_cons, List.any_nil, atP_0, atP_1, atP_2, flat_ints, Zz.any_ints, Nat.zero_le, IC.v, Nat.reduceLeDiff, forall_const, mset_mset, not_true_eq_false, not_false_eq_true, cpow9, pow9, cpow18, pow18, cpow30, pow30, ex2, Bool.true_eq_false, Int.cast_ofNat_Int, Int.ofNat_eq_natCast, flatP_non, flatP_bl, flatP_int, flatP_str, flatP_tup, flatP_lst, flatP_dct, eqF_ss, eqF_ii, eqF_bb, zB_Add_i, zB_Sub_i, zB_Mult_i, zB_FloorDiv_i, zB_Mod_i, zB_Pow_i, zB_BitAnd_i, zB_BitOr_i, zB_Add_s, zB_Add_t, zB_Add_l, zB_Mul_l, zIx_tup, zIx_lst, zIx_rol, zIx_str, zIx_mset, zLen_tup, zLen_lst, zLen_rol, zLen_str, zLen_mset, zInt_i, zInt_b, zTuple_t, zTuple_l, zTuple_m, zMax_ii, zMin_ii, zNeg_i, zNotV_b, zAllAny_l, wL_mset, szl0, szl1, szl2, szl3, szl4, szl5, szl6, szl7, szl8, szl9, szl10, szl11, szl12, szl13, szl14, szl15, szl16, szl17, szl18, szl19, szl20, szl21, szl22, szl23, szl24, szl25, szl26, szl27, szl28, szl29, szl30, szl31, szl32, szl33, szl34, szl35, szl36, szl37, szl38, szl39, szl40, szl41, szl42, szl43, szl44, szl45, szl46, szl47, szl48, szl49, szl50, szl51, szl52, szl53, szl54, szl55, szl56, szl57, szl58, szl59, szl60, szl61, szl62, szl63, szl64, szl65, szl66, szl67, szl68, szl69, frzV_ref, zfrz, Option.map_some, Option.map_none, frzV_non, frzV_bl, frzV_int, frzV_str, frzV_tup, frzV_lst, frzV_rol, frzV_dct]
      have fin : ∀ zs : List PV, pls zs = true → zs.length ≤ 6 → atP (ns.map .int) 1 fun y => ZCall T (k + 2) "_law_within" [.lst zs, y] M (fun x M => ∃ M', subM M' M ∧ Q x M') fun C fs M2 => X C fs M2 := fun zs hz hzl =>
        atP_int hn (by decide) (by omega) fun b _ => sp_L_within E hz (by omega) fun v hv => ret_same (q v hv)
      refine ⟨by decide, ite_any (fun _ => ⟨okD_gd (n := 2) (by unfold gd; exact gds_all fun y hy => isPr_gd (hat y hy)) (by decide), okD_nil, ite_any (fun hne => ?_) fun _ => fin ys hys2 hyl'⟩) fun _ => fin ys hys2 hyl'⟩
      refine atP_int hn (by decide) (by omega) fun c hc => ?_
      have hpos : 0 < ys.length := by
        cases ys with
        | nil => rw [eqv_nil] at hne; cases hne
        | cons a l => simp
      simp only [zsp, zSs, zS, zE, zEs, zT, zBoVs, zBoTs, zA, zIfs, zI, zO, zG, zGs, zsCons, zsNil, zsIf, zsRet, zsRetN, zsExpr, zsAsg, zsPar, zsFor, zsSet, zsSetL, zsPass, zsBreak, zsCont, zsFrz, zEnds, zstart, z1, z2, zVar, zGet, zCst, zChain_eq, onB_bl, tOf, zNotT, zBoT, zBoV, zIf, zNil, zCons, zTup, zPart, zNoPart, zSl, zSlL, zCB, zCBL, zBF, zLM, LM.ty, IC.pv, zAbs, zList, zIsi, zVal, zRng1, zRng2, zEnum, Zz.gNm, Zz.gNil, Zz.gCons, Zz.gTup, zCall, zMt, zAppend, zExtend, zInsert, zPop, zReverse, zRev, zDct0, zDctK, zDctT, zYes, zLc, zwipe, zCmp, zEq, zIs, isNonP, List.map_cons, List.map_nil, List.cons_append, List.nil_append, List.replicate_succ, List.replicate_zero, List.length_cons, List.length_nil, List.set_cons_zero, List.set_cons_succ, List.getElem?_cons_zero, List.getElem?_cons_succ, Option.join_some, Nat.reduceAdd, Nat.reduceSub, Nat.zero_add, isiB, Bool.not_eq_true', decide_eq_false_iff_not, decide_eq_true_eq,  tyP_non, isDct_non, rs_non, tyP_bl, isDct_bl, rs_bl, tyP_int, isDct_int, rs_int, tyP_str, isDct_str, rs_str, tyP_tup, isDct_tup, rs_tup, tyP_lst, isDct_lst, rs_lst, tyP_rol, isDct_rol, rs_rol, tyP_dct, isDct_dct, rs_dct, asL_lst, asL_rol, asS_lst, asS_rol, asS_tup, asW_lst, asT_tup, asL_mset, asS_mset, asW_mset, refL_mset, isDct_mset, tyP_mset, rs_mset, Option.some.injEq, exists_eq_left', true_and, and_true, Bool.not_true, Bool.not_false, Bool.false_eq_true, if_true, if_false, ite_true, ite_false, String.reduceBEq, Bool.or_false, Bool.or_true, Bool.false_or, Bool.true_or, Bool.and_false, Bool.and_true, Bool.true_and, Bool.false_and, reduceIte, PV.int.injEq, exists_const, PV.tup.injEq, PV.lst.injEq, PV.ref.injEq, PV.ty.injEq, zIn, List.all_cons, List.all_nil, List.any_cons, List.any_nil, atP_0, atP_1, atP_2, flat_ints, Zz.any_ints, Nat.zero_le, IC.v, Nat.reduceLeDiff, forall_const, mset_mset, not_true_eq_false, not_false_eq_true, cpow9, pow9, cpow18, pow18, cpow30, pow30, ex2, Bool.true_eq_false, Int.cast_ofNat_Int, Int.ofNat_eq_natCast, flatP_non, flatP_bl, flatP_int, flatP_str, flatP_tup, flatP_lst, flatP_dct, eqF_ss, eqF_ii, eqF_bb, zB_Add_i, zB_Sub_i, zB_Mult_i, zB_FloorDiv_i, zB_Mod_i, zB_Pow_i, zB_BitAnd_i, zB_BitOr_i, zB_Add_s, zB_Add_t, zB_Add_l, zB_Mul_l, zIx_tup, zIx_lst, zIx_rol, zIx_str, zIx_mset, zLen_tup, zLen_lst, zLen_rol, zLen_str, zLen_mset, zInt_i, zInt_b, zTuple_t, zTuple_l, zTuple_m, zMax_ii, zMin_ii, zNeg_i, zNotV_b, zAllAny_l, wL_mset, szl0, szl1, szl2, szl3, szl4, szl5, szl6, szl7, szl8, szl9, szl10, szl11, szl12, szl13, szl14, szl15, szl16, szl17, szl18, szl19, szl20, szl21, szl22, szl23, szl24, szl25, szl26, szl27, szl28, szl29, szl30, szl31, szl32, szl33, szl34, szl35, szl36, szl37, szl38, szl39, szl40, szl41, szl42, szl43, szl44, szl45, szl46, szl47, szl48, szl49, szl50, szl51, szl52, szl53, szl54, szl55, szl56, szl57, szl58, szl59, szl60, szl61, szl62, szl63, szl64, szl65, szl66, szl67, szl68, szl69, frzV_ref, zfrz, Option.map_some, Option.map_none, frzV_non, frzV_bl, frzV_int, frzV_str, frzV_tup, frzV_lst, frzV_rol, frzV_dct]
      refine ⟨divW (by decide) (by decide), by omega, atP_mod (by omega) (by omega) fun y hy => ?_⟩
      obtain ⟨c1, w1, rfl, _⟩ := hat y hy
      simp only [zsp, zSs, zS, zE, zEs, zT, zBoVs, zBoTs, zA, zIfs, zI, zO, zG, zGs, zsCons, zsNil, zsIf, zsRet, zsRetN, zsExpr, zsAsg, zsPar, zsFor, zsSet, zsSetL, zsPass, zsBreak, zsCont, zsFrz, zEnds, zstart, z1, z2, zVar, zGet, zCst, zChain_eq, onB_bl, tOf, zNotT, zBoT, zBoV, zIf, zNil, zCons, zTup, zPart, zNoPart, zSl, zSlL, zCB, zCBL, zBF, zLM, LM.ty, IC.pv, zAbs, zList, zIsi, zVal, zRng1, zRng2, zEnum, Zz.gNm, Zz.gNil, Zz.gCons, Zz.gTup, zCall, zMt, zAppend, zExtend, zInsert, zPop, zReverse, zRev, zDct0, zDctK, zDctT, zYes, zLc, zwipe, zCmp, zEq, zIs, isNonP, List.map_cons, List.map_nil, List.cons_append, List.nil_append, List.replicate_succ, List.replicate_zero, List.length_cons, List.length_nil, List.set_cons_zero, List.set_cons_succ, List.getElem?_cons_zero, List.getElem?_cons_succ, Option.join_some, Nat.reduceAdd, Nat.reduceSub, Nat.zero_add, isiB, Bool.not_eq_true', decide_eq_false_iff_not, decide_eq_true_eq,  tyP_non, isDct_non, rs_non, tyP_bl, isDct_bl, rs_bl, tyP_int, isDct_int, rs_int, tyP_str, isDct_str, rs_str, tyP_tup, isDct_tup, rs_tup, tyP_lst, isDct_lst, rs_lst, tyP_rol, isDct_rol, rs_rol, tyP_dct, isDct_dct, rs_dct, asL_lst, asL_rol, asS_lst, asS_rol, asS_tup, asW_lst, asT_tup, asL_mset, asS_mset, asW_mset, refL_mset, isDct_mset, tyP_mset, rs_mset, Option.some.injEq, exists_eq_left', true_and, and_true, Bool.not_true, Bool.not_false, Bool.false_eq_true, if_true, if_false, ite_true, ite_false, String.reduceBEq, Bool.or_false, Bool.or_true, Bool.false_or, Bool.true_or, Bool.and_false, Bool.and_true, Bool.true_and, Bool.false_and, reduceIte, PV.int.injEq, exists_const, PV.tup.injEq, PV.lst.injEq, PV.ref.injEq, PV.ty.injEq, zIn, List.all_cons, List.all_nil, List.any_cons, List.any_nil, atP_0, atP_1, atP_2, flat_ints, Zz.any_ints, Nat.zero_le, IC.v, Nat.reduceLeDiff, forall_const, mset_mset, not_true_eq_false, not_false_eq_true, cpow9, pow9, cpow18, pow18, cpow30, pow30, ex2, Bool.true_eq_false, Int.cast_ofNat_Int, Int.ofNat_eq_natCast, flatP_non, flatP_bl, flatP_int, flatP_str, flatP_tup, flatP_lst, flatP_dct, eqF_ss, eqF_ii, eqF_bb, zB_Add_i, zB_Sub_i, zB_Mult_i, zB_FloorDiv_i, zB_Mod_i, zB_Pow_i, zB_BitAnd_i, zB_BitOr_i, zB_Add_s, zB_Add_t, zB_Add_l, zB_Mul_l, zIx_tup, zIx_lst, zIx_rol, zIx_str, zIx_mset, zLen_tup, zLen_lst, zLen_rol, zLen_str, zLen_mset, zInt_i, zInt_b, zTuple_t, zTuple_l, zTuple_m, zMax_ii, zMin_ii, zNeg_i, zNotV_b, zAllAny_l, wL_mset, szl0, szl1, szl2, szl3, szl4, szl5, szl6, szl7, szl8, szl9, szl10, szl11, szl12, szl13, szl14, szl15, szl16, szl17, szl18, szl19, szl20, szl21, szl22, szl23, szl24, szl25, szl26, szl27, szl28, szl29, szl30, szl31, szl32, szl33, szl34, szl35, szl36, szl37, szl38, szl39, szl40, szl41, szl42, szl43, szl44, szl45, szl46, szl47, szl48, szl49, szl50, szl51, szl52, szl53, szl54, szl55, szl56, szl57, szl58, szl59, szl60, szl61, szl62, szl63, szl64, szl65, szl66, szl67, szl68, szl69, frzV_ref, zfrz, Option.map_some, Option.map_none, frzV_non, frzV_bl, frzV_int, frzV_str, frzV_tup, frzV_lst, frzV_rol, frzV_dct]
      refine atP_mod (by omega) (by omega) fun y hy => ?_
      obtain ⟨c2, w2, rfl, _⟩ := hat y hy
      simp only [zsp, zSs, zS, zE, zEs, zT, zBoVs, zBoTs, zA, zIfs, zI, zO, zG, zGs, zsCons, zsNil, zsIf, zsRet, zsRetN, zsExpr, zsAsg, zsPar, zsFor, zsSet, zsSetL, zsPass, zsBreak, zsCont, zsFrz, zEnds, zstart, z1, z2, zVar, zGet, zCst, zChain_eq, onB_bl, tOf, zNotT, zBoT, zBoV, zIf, zNil, zCons, zTup, zPart, zNoPart, zSl, zSlL, zCB, zCBL, zBF, zLM, LM.ty, IC.pv, zAbs, zList, zIsi, zVal, zRng1, zRng2, zEnum, Zz.gNm, Zz.gNil, Zz.gCons, Zz.gTup, zCall, zMt, zAppend, zExtend, zInsert, zPop, zReverse, zRev, zDct0, zDctK, zDctT, zYes, zLc, zwipe, zCmp, zEq, zIs, isNonP, List.map_cons, List.map_nil, List.cons_append, List.nil_append, List.replicate_succ, List.replicate_zero, List.length_cons, List.length_nil, List.set_cons_zero, List.set_cons_succ, List.getElem?_cons_zero, List.getElem?_cons_succ, Option.join_some, Nat.reduceAdd, Nat.reduceSub, Nat.zero_add, isiB, Bool.not_eq_true', decide_eq_false_iff_not, decide_eq_true_eq,  tyP_non, isDct_non, rs_non, tyP_bl, isDct_bl, rs_bl, tyP_int, isDct_int, rs_int, tyP_str, isDct_str, rs_str, tyP_tup, isDct_tup, rs_tup, tyP_lst, isDct_lst, rs_lst, tyP_rol, isDct_rol, rs_rol, tyP_dct, isDct_dct, rs_dct, asL_lst, asL_rol, asS_lst, asS_rol, asS_tup, asW_lst, asT_tup, asL_mset, asS_mset, asW_mset, refL_mset, isDct_mset, tyP_mset, rs_mset, Option.some.injEq, exists_eq_left', true_and, and_true, Bool.not_true, Bool.not_false, Bool.false_eq_true, if_true, if_false, ite_true, ite_false, String.reduceBEq, Bool.or_false, Bool.or_true, Bool.false_or, Bool.true_or, Bool.and_false, Bool.and_true, Bool.true_and, Bool.false_and, reduceIte, PV.int.injEq, exists_const, PV.tup.injEq, PV.lst.injEq, PV.ref.injEq, PV.ty.injEq, zIn, List.all_cons, List.all_nil, List.any_cons, List.any_nil, atP_0, atP_1, atP_2, flat_ints, Zz.any_ints, Nat.zero_le, IC.v, Nat.reduceLeDiff, forall_const, mset_mset, not_true_eq_false, not_false_eq_true, cpow9, pow9, cpow18, pow18, cpow30, pow30, ex2, Bool.true_eq_false, Int.cast_ofNat_Int, Int.ofNat_eq_natCast, flatP_non, flatP_bl, flatP_int, flatP_str, flatP_tup, flatP_lst, flatP_dct, eqF_ss, eqF_ii, eqF_bb, zB_Add_i, zB_Sub_i, zB_Mult_i, zB_FloorDiv_i, zB_Mod_i, zB_Pow_i, zB_BitAnd_i, zB_BitOr_i, zB_Add_s, zB_Add_t, zB_Add_l, zB_Mul_l, zIx_tup, zIx_lst, zIx_rol, zIx_str, zIx_mset, zLen_tup, zLen_lst, zLen_rol, zLen_str, zLen_mset, zInt_i, zInt_b, zTuple_t, zTuple_l, zTuple_m, zMax_ii, zMin_ii, zNeg_i, zNotV_b, zAllAny_l, wL_mset, szl0, szl1, szl2, szl3, szl4, szl5, szl6, szl7, szl8, szl9, szl10, szl11, szl12, szl13, szl14, szl15, szl16, szl17, szl18, szl19, szl20, szl21, szl22, szl23, szl24, szl25, szl26, szl27, szl28, szl29, szl30, szl31, szl32, szl33, szl34, szl35, szl36, szl37, szl38, szl39, szl40, szl41, szl42, szl43, szl44, szl45, szl46, szl47, szl48, szl49, szl50, szl51, szl52, szl53, szl54, szl55, szl56, szl57, szl58, szl59, szl60, szl61, szl62, szl63, szl64, szl65, szl66, szl67, szl68, szl69, frzV_ref, zfrz, Option.map_some, Option.map_none, frzV_non, frzV_bl, frzV_int, frzV_str, frzV_tup, frzV_lst, frzV_rol, frzV_dct]
      refine atP_int hn (by decide) (by omega) fun d hd => atP_int hn (by decide) (by omega) fun e he => sp_L_other_part E rfl rfl fun w hw => ?_
      refine dPut_no (Int.emod_nonneg _ (by omega)) (Int.emod_lt_of_pos _ (by omega)) fun j hj => ?_
      simp only [mdel_mset hp, zsp, zSs, zS, zE, zEs, zT, zBoVs, zBoTs, zA, zIfs, zI, zO, zG, zGs, zsCons, zsNil, zsIf, zsRet, zsRetN, zsExpr, zsAsg, zsPar, zsFor, zsSet, zsSetL, zsPass, zsBreak, zsCont, zsFrz, zEnds, zstart, z1, z2, zVar, zGet, zCst, zChain_eq, onB_bl, tOf, zNotT, zBoT, zBoV, zIf, zNil, zCons, zTup, zPart, zNoPart, zSl, zSlL, zCB, zCBL, zBF, zLM, LM.ty, IC.pv, zAbs, zList, zIsi, zVal, zRng1, zRng2, zEnum, Zz.gNm, Zz.gNil, Zz.gCons, Zz.gTup, zCall, zMt, zAppend, zExtend, zInsert, zPop, zReverse, zRev, zDct0, zDctK, zDctT, zYes, zLc, zwipe, zCmp, zEq, zIs, isNonP, List.map_cons, List.map_nil, List.cons_append, List.nil_append, List.replicate_succ, List.replicate_zero, List.length_cons, List.length_nil, List.set_cons_zero, List.set_cons_succ, List.getElem?_cons_zero, List.getElem?_cons_succ, Option.join_some, Nat.reduceAdd, Nat.reduceSub, Nat.zero_add, isiB, Bool.not_eq_true', decide_eq_false_iff_not, decide_eq_true_eq,  tyP_non, isDct_non, rs_non, tyP_bl, isDct_bl, rs_bl, tyP_int, isDct_int, rs_int, tyP_str, isDct_str, rs_str, tyP_tup, isDct_tup, rs_tup, tyP_lst, isDct_lst, rs_lst, tyP_rol, isDct_rol, rs_rol, tyP_dct, isDct_dct, rs_dct, asL_lst, asL_rol, asS_lst, asS_rol, asS_tup, asW_lst, asT_tup, asL_mset, asS_mset, asW_mset, refL_mset, isDct_mset, tyP_mset, rs_mset, Option.some.injEq, exists_eq_left', true_and, and_true, Bool.not_true, Bool.not_false, Bool.false_eq_true, if_true, if_false, ite_true, ite_false, String.reduceBEq, Bool.or_false, Bool.or_true, Bool.false_or, Bool.true_or, Bool.and_false, Bool.and_true, Bool.true_and, Bool.false_and, reduceIte, PV.int.injEq, exists_const, PV.tup.injEq, PV.lst.injEq, PV.ref.injEq, PV.ty.injEq, zIn, List.all_cons, List.all_nil, List.any_cons, List.any_nil, atP_0, atP_1, atP_2, flat_ints, Zz.any_ints, Nat.zero_le, IC.v, Nat.reduceLeDiff, forall_const, mset_mset, not_true_eq_false, not_false_eq_true, cpow9, pow9, cpow18, pow18, cpow30, pow30, ex2, Bool.true_eq_false, Int.cast_ofNat_Int, Int.ofNat_eq_natCast, flatP_non, flatP_bl, flatP_int, flatP_str, flatP_tup, flatP_lst, flatP_dct, eqF_ss, eqF_ii, eqF_bb, zB_Add_i, zB_Sub_i, zB_Mult_i, zB_FloorDiv_i, zB_Mod_i, zB_Pow_i, zB_BitAnd_i, zB_BitOr_i, zB_Add_s, zB_Add_t, zB_Add_l, zB_Mul_l, zIx_tup, zIx_lst, zIx_rol, zIx_str, zIx_mset, zLen_tup, zLen_lst, zLen_rol, zLen_str, zLen_mset, zInt_i, zInt_b, zTuple_t, zTuple_l, zTuple_m, zMax_ii, zMin_ii, zNeg_i, zNotV_b, zAllAny_l, wL_mset, szl0, szl1, szl2, szl3, szl4, szl5, szl6, szl7, szl8, szl9, szl10, szl11, szl12, szl13, szl14, szl15, szl16, szl17, szl18, szl19, szl20, szl21, szl22, szl23, szl24, szl25, szl26, szl27, szl28, szl29, szl30, szl31, szl32, szl33, szl34, szl35, szl36, szl37, szl38, szl39, szl40, szl41, szl42, szl43, szl44, szl45, szl46, szl47, szl48, szl49, szl50, szl51, szl52, szl53, szl54, szl55, szl56, szl57, szl58, szl59, szl60, szl61, szl62, szl63, szl64, szl65, szl66, szl67, szl68, szl69, frzV_ref, zfrz, Option.map_some, Option.map_none, frzV_non, frzV_bl, frzV_int, frzV_str, frzV_tup, frzV_lst, frzV_rol, frzV_dct]
      refine fin _ (pls_all fun y hy => ?_) (by rw [List.length_set]; exact hyl')
      rcases List.mem_or_eq_of_mem_set hy with h | h
      · exact isPr_pl (hat y h)
      · subst h; exact hw
end
end Lk01
end
section
namespace Lk01
open PySem PySem.Spec PyProof.Rows L2 Zz
theorem mem_cut {α : Type} {xs : List α} {lo hi : Option Int} {x : α} (h : x ∈ cut xs lo hi) : x ∈ xs := List.mem_of_mem_drop (List.mem_of_mem_take h)
theorem cut_from {α : Type} {xs : List α} {n : Int} (h0 : 0 ≤ n) (h1 : n ≤ xs.length) : ((cut xs (some n) none).length : Int) = xs.length - n := by
  unfold cut
  rw [List.length_take, List.length_drop]
  have e1 : HT.sIx xs.length 0 (some n) = n.toNat := by
    show (if n < 0 then (n + (xs.length : Int)).toNat else min n.toNat xs.length) = n.toNat
    rw [if_neg (by omega)]
    exact Nat.min_eq_left (by omega)
  have e2 : HT.sIx xs.length xs.length none = xs.length := rfl
  rw [e1, e2]
  omega
theorem cut_to {α : Type} {xs : List α} {n : Int} (h0 : 0 ≤ n) (h1 : n ≤ xs.length) : ((cut xs none (some n)).length : Int) = n := by
  unfold cut
  rw [List.length_take, List.length_drop]
  have e1 : HT.sIx xs.length xs.length (some n) = n.toNat := by
    show (if n < 0 then (n + (xs.length : Int)).toNat else min n.toNat xs.length) = n.toNat
    rw [if_neg (by omega)]
    exact Nat.min_eq_left (by omega)
  have e2 : HT.sIx xs.length 0 none = 0 := rfl
  rw [e1, e2]
  omega
theorem law_ok {T : Tx} (E : EnvT T) : LawOk T 12 N_law ir_law := by
  intro ns hl
  generalize (fun _ => none : Mem) = M0
  simp only [ir_law, N_law, zsp, zSs, zS, zE, zEs, zT, zBoVs, zBoTs, zA, zIfs, zI, zO, zG, zGs, zsCons, zsNil, zsIf, zsRet, zsRetN, zsExpr, zsAsg, zsPar, zsFor, zsSet, zsSetL, zsPass, zsBreak, zsCont, zsFrz, zEnds, zstart, z1, z2, zVar, zGet, zCst, zChain_eq, onB_bl, tOf, zNotT, zBoT, zBoV, zIf, zNil, zCons, zTup, zPart, zNoPart, zSl, zSlL, zCB, zCBL, zBF, zLM, LM.ty, IC.pv, zAbs, zList, zIsi, zVal, zRng1, zRng2, zEnum, Zz.gNm, Zz.gNil, Zz.gCons, Zz.gTup, zCall, zMt, zAppend, zExtend, zInsert, zPop, zReverse, zRev, zDct0, zDctK, zDctT, zYes, zLc, zwipe, zCmp, zEq, zIs, isNonP, List.map_cons, List.map_nil, List.cons_append, List.nil_append, List.replicate_succ, List.replicate_zero, List.length_cons, List.length_nil, List.set_cons_zero, List.set_cons_succ, List.getElem?_cons_zero, List.getElem?_cons_succ, Option.join_some, Nat.reduceAdd, Nat.reduceSub, Nat.zero_add, isiB, Bool.not_eq_true', decide_eq_false_iff_not, decide_eq_true_eq,  tyP_non, isDct_non, rs_non, tyP_bl, isDct_bl, rs_bl, tyP_int, isDct_int, rs_int, tyP_str, isDct_str, rs_str, tyP_tup, isDct_tup, rs_tup, tyP_lst, isDct_lst, rs_lst, tyP_rol, isDct_rol, rs_rol, tyP_dct, isDct_dct, rs_dct, asL_lst, asL_rol, asS_lst, asS_rol, asS_tup, asW_lst, asT_tup, asL_mset, asS_mset, asW_mset, refL_mset, isDct_mset, tyP_mset, rs_mset, Option.some.injEq, exists_eq_left', true_and, and_true, Bool.not_true, Bool.not_false, Bool.false_eq_true, if_true, if_false, ite_true, ite_false, String.reduceBEq, Bool.or_false, Bool.or_true, Bool.false_or, Bool.true_or, Bool.and_false, Bool.and_true, Bool.true_and, Bool.false_and, reduceIte, PV.int.injEq, exists_const, PV.tup.injEq, PV.lst.injEq, PV.ref.injEq, PV.ty.injEq, zIn, List.all_cons, List.all_nil, List.any_cons, List.any_nil, atP_0, atP_1, atP_2, flat_ints, Zz.any_ints, Nat.zero_le, IC.v, Nat.reduceLeDiff, forall_const, mset_mset, not_true_eq_false, not_false_eq_true, cpow9, pow9, cpow18, pow18, cpow30, pow30, ex2, Bool.true_eq_false, Int.cast_ofNat_Int, Int.ofNat_eq_natCast, flatP_non, flatP_bl, flatP_int, flatP_str, flatP_tup, flatP_lst, flatP_dct, eqF_ss, eqF_ii, eqF_bb, zB_Add_i, zB_Sub_i, zB_Mult_i, zB_FloorDiv_i, zB_Mod_i, zB_Pow_i, zB_BitAnd_i, zB_BitOr_i, zB_Add_s, zB_Add_t, zB_Add_l, zB_Mul_l, zIx_tup, zIx_lst, zIx_rol, zIx_str, zIx_mset, zLen_tup, zLen_lst, zLen_rol, zLen_str, zLen_mset, zInt_i, zInt_b, zTuple_t, zTuple_l, zTuple_m, zMax_ii, zMin_ii, zNeg_i, zNotV_b, zAllAny_l, wL_mset, szl0, szl1, szl2, szl3, szl4, szl5, szl6, szl7, szl8, szl9, szl10, szl11, szl12, szl13, szl14, szl15, szl16, szl17, szl18, szl19, szl20, szl21, szl22, szl23, szl24, szl25, szl26, szl27, szl28, szl29, szl30, szl31, szl32, szl33, szl34, szl35, szl36, szl37, szl38, szl39, szl40, szl41, szl42, szl43, szl44, szl45, szl46, szl47, szl48, szl49, szl50, szl51, szl52, szl53, szl54, szl55, szl56, szl57, szl58, szl59, szl60, szl61, szl62, szl63, szl64, szl65, szl66, szl67, szl68, szl69, frzV_ref, zfrz, Option.map_some, Option.map_none, frzV_non, frzV_bl, frzV_int, frzV_str, frzV_tup, frzV_lst, frzV_rol, frzV_dct]
  have hb : ∀ n : Int, n ≤ 63 → ∃ m : Int, (if (if 8 < n then 8 else n) > 2 then (if 8 < n then 8 else n) else 2) = m ∧ 2 ≤ m ∧ m ≤ 8 := fun n hn => ⟨_, rfl, by split <;> omega, by split <;> (try split) <;> omega⟩
  obtain ⟨m, hm, m0, m1⟩ := hb ((List.map PV.int ns).length : Int) (by rw [List.length_map]; omega)
  rw [hm]
  have hs : (8 : Int) ≤ (sizeLine : Int) := by decide
  refine ⟨by omega, by omega, ?_⟩
  refine for_inv (fun r z N => ∃ a b c d e f g h : Option PV, (∀ x ∈ r, ∃ k : Nat, k ≤ 8 ∧ x = .int k) ∧ N = M0 ∧ z = [some (.rol (ns.map .int)), a, b, c, d, e, f, g, h]) ?_ ?_ _ _ _ ⟨none, none, none, none, none, none, none, none, ?_, rfl, rfl⟩
  · rintro z N ⟨a, b, c, d, e, f, g, h, _, rfl, rfl⟩
    simp only [zsp, zSs, zS, zE, zEs, zT, zBoVs, zBoTs, zA, zIfs, zI, zO, zG, zGs, zsCons, zsNil, zsIf, zsRet, zsRetN, zsExpr, zsAsg, zsPar, zsFor, zsSet, zsSetL, zsPass, zsBreak, zsCont, zsFrz, zEnds, zstart, z1, z2, zVar, zGet, zCst, zChain_eq, onB_bl, tOf, zNotT, zBoT, zBoV, zIf, zNil, zCons, zTup, zPart, zNoPart, zSl, zSlL, zCB, zCBL, zBF, zLM, LM.ty, IC.pv, zAbs, zList, zIsi, zVal, zRng1, zRng2, zEnum, Zz.gNm, Zz.gNil, Zz.gCons, Zz.gTup, zCall, zMt, zAppend, zExtend, zInsert, zPop, zReverse, zRev, zDct0, zDctK, zDctT, zYes, zLc, zwipe, zCmp, zEq, zIs, isNonP, List.map_cons, List.map_nil, List.cons_append, List.nil_append, List.replicate_succ, List.replicate_zero, List.length_cons, List.length_nil, List.set_cons_zero, List.set_cons_succ, List.getElem?_cons_zero, List.getElem?_cons_succ, Option.join_some, Nat.reduceAdd, Nat.reduceSub, Nat.zero_add, isiB, Bool.not_eq_true', decide_eq_false_iff_not, decide_eq_true_eq,  tyP_non, isDct_non, rs_non, tyP_bl, isDct_bl, rs_bl, tyP_int, isDct_int, rs_int, tyP_str, isDct_str, rs_str, tyP_tup, isDct_tup, rs_tup, tyP_lst, isDct_lst, rs_lst, tyP_rol, isDct_rol, rs_rol, tyP_dct, isDct_dct, rs_dct, asL_lst, asL_rol, asS_lst, asS_rol, asS_tup, asW_lst, asT_tup, asL_mset, asS_mset, asW_mset, refL_mset, isDct_mset, tyP_mset, rs_mset, Option.some.injEq, exists_eq_left', true_and, and_true, Bool.not_true, Bool.not_false, Bool.false_eq_true, if_true, if_false, ite_true, ite_false, String.reduceBEq, Bool.or_false, Bool.or_true, Bool.false_or, Bool.true_or, Bool.and_false, Bool.and_true, Bool.true_and, Bool.false_and, reduceIte, PV.int.injEq, exists_const, PV.tup.injEq, PV.lst.injEq, PV.ref.injEq, PV.ty.injEq, zIn, List.all_cons, List.all_nil, List.any_cons, List.any_nil, atP_0, atP_1, atP_2, flat_ints, Zz.any_ints, Nat.zero_le, IC.v, Nat.reduceLeDiff, forall_const, mset_mset, not_true_eq_false, not_false_eq_true, cpow9, pow9, cpow18, pow18, cpow30, pow30, ex2, Bool.true_eq_false, Int.cast_ofNat_Int, Int.ofNat_eq_natCast, flatP_non, flatP_bl, flatP_int, flatP_str, flatP_tup, flatP_lst, flatP_dct, eqF_ss, eqF_ii, eqF_bb, zB_Add_i, zB_Sub_i, zB_Mult_i, zB_FloorDiv_i, zB_Mod_i, zB_Pow_i, zB_BitAnd_i, zB_BitOr_i, zB_Add_s, zB_Add_t, zB_Add_l, zB_Mul_l, zIx_tup, zIx_lst, zIx_rol, zIx_str, zIx_mset, zLen_tup, zLen_lst, zLen_rol, zLen_str, zLen_mset, zInt_i, zInt_b, zTuple_t, zTuple_l, zTuple_m, zMax_ii, zMin_ii, zNeg_i, zNotV_b, zAllAny_l, wL_mset, szl0, szl1, szl2, szl3, szl4, szl5, szl6, szl7, szl8, szl9, szl10, szl11, szl12, szl13, szl14, szl15, szl16, szl17, szl18, szl19, szl20, szl21, szl22, szl23, szl24, szl25, szl26, szl27, szl28, szl29, szl30, szl31, szl32, szl33, szl34, szl35, szl36, szl37, szl38, szl39, szl40, szl41, szl42, szl43, szl44, szl45, szl46, szl47, szl48, szl49, szl50, szl51, szl52, szl53, szl54, szl55, szl56, szl57, szl58, szl59, szl60, szl61, szl62, szl63, szl64, szl65, szl66, szl67, szl68, szl69, frzV_ref, zfrz, Option.map_some, Option.map_none, frzV_non, frzV_bl, frzV_int, frzV_str, frzV_tup, frzV_lst, frzV_rol, frzV_dct]
    first | exact ⟨_, fun _ _ h => h, rfl⟩ | exact ⟨_, fun _ _ h => h⟩
  · rintro y r z N K ⟨a, b, c, d, e, f, g, h, hr, rfl, rfl⟩ hK
    obtain ⟨j, hj, rfl⟩ := hr y (List.mem_cons_self ..)
    simp only [zsp, zSs, zS, zE, zEs, zT, zBoVs, zBoTs, zA, zIfs, zI, zO, zG, zGs, zsCons, zsNil, zsIf, zsRet, zsRetN, zsExpr, zsAsg, zsPar, zsFor, zsSet, zsSetL, zsPass, zsBreak, zsCont, zsFrz, zEnds, zstart, z1, z2, zVar, zGet, zCst, zChain_eq, onB_bl, tOf, zNotT, zBoT, zBoV, zIf, zNil, zCons, zTup, zPart, zNoPart, zSl, zSlL, zCB, zCBL, zBF, zLM, LM.ty, IC.pv, zAbs, zList, zIsi, zVal, zRng1, zRng2, zEnum, Zz.gNm, Zz.gNil, Zz.gCons, Zz.gTup, zCall, zMt, zAppend, zExtend, zInsert, zPop, zReverse, zRev, zDct0, zDctK, zDctT, zYes, zLc, zwipe, zCmp, zEq, zIs, isNonP, List.map_cons, List.map_nil, List.cons_append, List.nil_append, List.replicate_succ, List.replicate_zero, List.length_cons, List.length_nil, List.set_cons_zero, List.set_cons_succ, List.getElem?_cons_zero, List.getElem?_cons_succ, Option.join_some, Nat.reduceAdd, Nat.reduceSub, Nat.zero_add, isiB, Bool.not_eq_true', decide_eq_false_iff_not, decide_eq_true_eq,  tyP_non, isDct_non, rs_non, tyP_bl, isDct_bl, rs_bl, tyP_int, isDct_int, rs_int, tyP_str, isDct_str, rs_str, tyP_tup, isDct_tup, rs_tup, tyP_lst, isDct_lst, rs_lst, tyP_rol, isDct_rol, rs_rol, tyP_dct, isDct_dct, rs_dct, asL_lst, asL_rol, asS_lst, asS_rol, asS_tup, asW_lst, asT_tup, asL_mset, asS_mset, asW_mset, refL_mset, isDct_mset, tyP_mset, rs_mset, Option.some.injEq, exists_eq_left', true_and, and_true, Bool.not_true, Bool.not_false, Bool.false_eq_true, if_true, if_false, ite_true, ite_false, String.reduceBEq, Bool.or_false, Bool.or_true, Bool.false_or, Bool.true_or, Bool.and_false, Bool.and_true, Bool.true_and, Bool.false_and, reduceIte, PV.int.injEq, exists_const, PV.tup.injEq, PV.lst.injEq, PV.ref.injEq, PV.ty.injEq, zIn, List.all_cons, List.all_nil, List.any_cons, List.any_nil, atP_0, atP_1, atP_2, flat_ints, Zz.any_ints, Nat.zero_le, IC.v, Nat.reduceLeDiff, forall_const, mset_mset, not_true_eq_false, not_false_eq_true, cpow9, pow9, cpow18, pow18, cpow30, pow30, ex2, Bool.true_eq_false, Int.cast_ofNat_Int, Int.ofNat_eq_natCast, flatP_non, flatP_bl, flatP_int, flatP_str, flatP_tup, flatP_lst, flatP_dct, eqF_ss, eqF_ii, eqF_bb, zB_Add_i, zB_Sub_i, zB_Mult_i, zB_FloorDiv_i, zB_Mod_i, zB_Pow_i, zB_BitAnd_i, zB_BitOr_i, zB_Add_s, zB_Add_t, zB_Add_l, zB_Mul_l, zIx_tup, zIx_lst, zIx_rol, zIx_str, zIx_mset, zLen_tup, zLen_lst, zLen_rol, zLen_str, zLen_mset, zInt_i, zInt_b, zTuple_t, zTuple_l, zTuple_m, zMax_ii, zMin_ii, zNeg_i, zNotV_b, zAllAny_l, wL_mset, szl0, szl1, szl2, szl3, szl4, szl5, szl6, szl7, szl8, szl9, szl10, szl11, szl12, szl13, szl14, szl15, szl16, szl17, szl18, szl19, szl20, szl21, szl22, szl23, szl24, szl25, szl26, szl27, szl28, szl29, szl30, szl31, szl32, szl33, szl34, szl35, szl36, szl37, szl38, szl39, szl40, szl41, szl42, szl43, szl44, szl45, szl46, szl47, szl48, szl49, szl50, szl51, szl52, szl53, szl54, szl55, szl56, szl57, szl58, szl59, szl60, szl61, szl62, szl63, szl64, szl65, szl66, szl67, szl68, szl69, frzV_ref, zfrz, Option.map_some, Option.map_none, frzV_non, frzV_bl, frzV_int, frzV_str, frzV_tup, frzV_lst, frzV_rol, frzV_dct]
    refine sp_L_cell E (by omega) fun cc => ?_
    try simp only [zsp, zSs, zS, zE, zEs, zT, zBoVs, zBoTs, zA, zIfs, zI, zO, zG, zGs, zsCons, zsNil, zsIf, zsRet, zsRetN, zsExpr, zsAsg, zsPar, zsFor, zsSet, zsSetL, zsPass, zsBreak, zsCont, zsFrz, zEnds, zstart, z1, z2, zVar, zGet, zCst, zChain_eq, onB_bl, tOf, zNotT, zBoT, zBoV, zIf, zNil, zCons, zTup, zPart, zNoPart, zSl, zSlL, zCB, zCBL, zBF, zLM, LM.ty, IC.pv, zAbs, zList, zIsi, zVal, zRng1, zRng2, zEnum, Zz.gNm, Zz.gNil, Zz.gCons, Zz.gTup, zCall, zMt, zAppend, zExtend, zInsert, zPop, zReverse, zRev, zDct0, zDctK, zDctT, zYes, zLc, zwipe, zCmp, zEq, zIs, isNonP, List.map_cons, List.map_nil, List.cons_append, List.nil_append, List.replicate_succ, List.replicate_zero, List.length_cons, List.length_nil, List.set_cons_zero, List.set_cons_succ, List.getElem?_cons_zero, List.getElem?_cons_succ, Option.join_some, Nat.reduceAdd, Nat.reduceSub, Nat.zero_add, isiB, Bool.not_eq_true', decide_eq_false_iff_not, decide_eq_true_eq,  tyP_non, isDct_non, rs_non, tyP_bl, isDct_bl, rs_bl, tyP_int, isDct_int, rs_int, tyP_str, isDct_str, rs_str, tyP_tup, isDct_tup, rs_tup, tyP_lst, isDct_lst, rs_lst, tyP_rol, isDct_rol, rs_rol, tyP_dct, isDct_dct, rs_dct, asL_lst, asL_rol, asS_lst, asS_rol, asS_tup, asW_lst, asT_tup, asL_mset, asS_mset, asW_mset, refL_mset, isDct_mset, tyP_mset, rs_mset, Option.some.injEq, exists_eq_left', true_and, and_true, Bool.not_true, Bool.not_false, Bool.false_eq_true, if_true, if_false, ite_true, ite_false, String.reduceBEq, Bool.or_false, Bool.or_true, Bool.false_or, Bool.true_or, Bool.and_false, Bool.and_true, Bool.true_and, Bool.false_and, reduceIte, PV.int.injEq, exists_const, PV.tup.injEq, PV.lst.injEq, PV.ref.injEq, PV.ty.injEq, zIn, List.all_cons, List.all_nil, List.any_cons, List.any_nil, atP_0, atP_1, atP_2, flat_ints, Zz.any_ints, Nat.zero_le, IC.v, Nat.reduceLeDiff, forall_const, mset_mset, not_true_eq_false, not_false_eq_true, cpow9, pow9, cpow18, pow18, cpow30, pow30, ex2, Bool.true_eq_false, Int.cast_ofNat_Int, Int.ofNat_eq_natCast, flatP_non, flatP_bl, flatP_int, flatP_str, flatP_tup, flatP_lst, flatP_dct, eqF_ss, eqF_ii, eqF_bb, zB_Add_i, zB_Sub_i, zB_Mult_i, zB_FloorDiv_i, zB_Mod_i, zB_Pow_i, zB_BitAnd_i, zB_BitOr_i, zB_Add_s, zB_Add_t, zB_Add_l, zB_Mul_l, zIx_tup, zIx_lst, zIx_rol, zIx_str, zIx_mset, zLen_tup, zLen_lst, zLen_rol, zLen_str, zLen_mset, zInt_i, zInt_b, zTuple_t, zTuple_l, zTuple_m, zMax_ii, zMin_ii, zNeg_i, zNotV_b, zAllAny_l, wL_mset, szl0, szl1, szl2, szl3, szl4, szl5, szl6, szl7, szl8, szl9, szl10, szl11, szl12, szl13, szl14, szl15, szl16, szl17, szl18, szl19, szl20, szl21, szl22, szl23, szl24, szl25, szl26, szl27, szl28, szl29, szl30, szl31, szl32, szl33, szl34, szl35, szl36, szl37, szl38, szl39, szl40, szl41, szl42, szl43, szl44, szl45, szl46, szl47, szl48, szl49, szl50, szl51, szl52, szl53, szl54, szl55, szl56, szl57, szl58, szl59, szl60, szl61, szl62, szl63, szl64, szl65, szl66, szl67, szl68, szl69, frzV_ref, zfrz, Option.map_some, Option.map_none, frzV_non, frzV_bl, frzV_int, frzV_str, frzV_tup, frzV_lst, frzV_rol, frzV_dct]
    refine sp_L_draws E (m := 60) (by decide) fun ds hdl hd => ?_
    try simp only [cut_map, zsp, zSs, zS, zE, zEs, zT, zBoVs, zBoTs, zA, zIfs, zI, zO, zG, zGs, zsCons, zsNil, zsIf, zsRet, zsRetN, zsExpr, zsAsg, zsPar, zsFor, zsSet, zsSetL, zsPass, zsBreak, zsCont, zsFrz, zEnds, zstart, z1, z2, zVar, zGet, zCst, zChain_eq, onB_bl, tOf, zNotT, zBoT, zBoV, zIf, zNil, zCons, zTup, zPart, zNoPart, zSl, zSlL, zCB, zCBL, zBF, zLM, LM.ty, IC.pv, zAbs, zList, zIsi, zVal, zRng1, zRng2, zEnum, Zz.gNm, Zz.gNil, Zz.gCons, Zz.gTup, zCall, zMt, zAppend, zExtend, zInsert, zPop, zReverse, zRev, zDct0, zDctK, zDctT, zYes, zLc, zwipe, zCmp, zEq, zIs, isNonP, List.map_cons, List.map_nil, List.cons_append, List.nil_append, List.replicate_succ, List.replicate_zero, List.length_cons, List.length_nil, List.set_cons_zero, List.set_cons_succ, List.getElem?_cons_zero, List.getElem?_cons_succ, Option.join_some, Nat.reduceAdd, Nat.reduceSub, Nat.zero_add, isiB, Bool.not_eq_true', decide_eq_false_iff_not, decide_eq_true_eq,  tyP_non, isDct_non, rs_non, tyP_bl, isDct_bl, rs_bl, tyP_int, isDct_int, rs_int, tyP_str, isDct_str, rs_str, tyP_tup, isDct_tup, rs_tup, tyP_lst, isDct_lst, rs_lst, tyP_rol, isDct_rol, rs_rol, tyP_dct, isDct_dct, rs_dct, asL_lst, asL_rol, asS_lst, asS_rol, asS_tup, asW_lst, asT_tup, asL_mset, asS_mset, asW_mset, refL_mset, isDct_mset, tyP_mset, rs_mset, Option.some.injEq, exists_eq_left', true_and, and_true, Bool.not_true, Bool.not_false, Bool.false_eq_true, if_true, if_false, ite_true, ite_false, String.reduceBEq, Bool.or_false, Bool.or_true, Bool.false_or, Bool.true_or, Bool.and_false, Bool.and_true, Bool.true_and, Bool.false_and, reduceIte, PV.int.injEq, exists_const, PV.tup.injEq, PV.lst.injEq, PV.ref.injEq, PV.ty.injEq, zIn, List.all_cons, List.all_nil, List.any_cons, List.any_nil, atP_0, atP_1, atP_2, flat_ints, Zz.any_ints, Nat.zero_le, IC.v, Nat.reduceLeDiff, forall_const, mset_mset, not_true_eq_false, not_false_eq_true, cpow9, pow9, cpow18, pow18, cpow30, pow30, ex2, Bool.true_eq_false, Int.cast_ofNat_Int, Int.ofNat_eq_natCast, flatP_non, flatP_bl, flatP_int, flatP_str, flatP_tup, flatP_lst, flatP_dct, eqF_ss, eqF_ii, eqF_bb, zB_Add_i, zB_Sub_i, zB_Mult_i, zB_FloorDiv_i, zB_Mod_i, zB_Pow_i, zB_BitAnd_i, zB_BitOr_i, zB_Add_s, zB_Add_t, zB_Add_l, zB_Mul_l, zIx_tup, zIx_lst, zIx_rol, zIx_str, zIx_mset, zLen_tup, zLen_lst, zLen_rol, zLen_str, zLen_mset, zInt_i, zInt_b, zTuple_t, zTuple_l, zTuple_m, zMax_ii, zMin_ii, zNeg_i, zNotV_b, zAllAny_l, wL_mset, szl0, szl1, szl2, szl3, szl4, szl5, szl6, szl7, szl8, szl9, szl10, szl11, szl12, szl13, szl14, szl15, szl16, szl17, szl18, szl19, szl20, szl21, szl22, szl23, szl24, szl25, szl26, szl27, szl28, szl29, szl30, szl31, szl32, szl33, szl34, szl35, szl36, szl37, szl38, szl39, szl40, szl41, szl42, szl43, szl44, szl45, szl46, szl47, szl48, szl49, szl50, szl51, szl52, szl53, szl54, szl55, szl56, szl57, szl58, szl59, szl60, szl61, szl62, szl63, szl64, szl65, szl66, szl67, szl68, szl69, frzV_ref, zfrz, Option.map_some, Option.map_none, frzV_non, frzV_bl, frzV_int, frzV_str, frzV_tup, frzV_lst, frzV_rol, frzV_dct]
    refine sp_L_some_thing E (fun n hn => hd n (mem_cut hn)) (by have := cut_to (xs := ds) (n := 15) (by decide) (by omega); omega) fun od hod => ?_
    try simp only [cut_map, zsp, zSs, zS, zE, zEs, zT, zBoVs, zBoTs, zA, zIfs, zI, zO, zG, zGs, zsCons, zsNil, zsIf, zsRet, zsRetN, zsExpr, zsAsg, zsPar, zsFor, zsSet, zsSetL, zsPass, zsBreak, zsCont, zsFrz, zEnds, zstart, z1, z2, zVar, zGet, zCst, zChain_eq, onB_bl, tOf, zNotT, zBoT, zBoV, zIf, zNil, zCons, zTup, zPart, zNoPart, zSl, zSlL, zCB, zCBL, zBF, zLM, LM.ty, IC.pv, zAbs, zList, zIsi, zVal, zRng1, zRng2, zEnum, Zz.gNm, Zz.gNil, Zz.gCons, Zz.gTup, zCall, zMt, zAppend, zExtend, zInsert, zPop, zReverse, zRev, zDct0, zDctK, zDctT, zYes, zLc, zwipe, zCmp, zEq, zIs, isNonP, List.map_cons, List.map_nil, List.cons_append, List.nil_append, List.replicate_succ, List.replicate_zero, List.length_cons, List.length_nil, List.set_cons_zero, List.set_cons_succ, List.getElem?_cons_zero, List.getElem?_cons_succ, Option.join_some, Nat.reduceAdd, Nat.reduceSub, Nat.zero_add, isiB, Bool.not_eq_true', decide_eq_false_iff_not, decide_eq_true_eq,  tyP_non, isDct_non, rs_non, tyP_bl, isDct_bl, rs_bl, tyP_int, isDct_int, rs_int, tyP_str, isDct_str, rs_str, tyP_tup, isDct_tup, rs_tup, tyP_lst, isDct_lst, rs_lst, tyP_rol, isDct_rol, rs_rol, tyP_dct, isDct_dct, rs_dct, asL_lst, asL_rol, asS_lst, asS_rol, asS_tup, asW_lst, asT_tup, asL_mset, asS_mset, asW_mset, refL_mset, isDct_mset, tyP_mset, rs_mset, Option.some.injEq, exists_eq_left', true_and, and_true, Bool.not_true, Bool.not_false, Bool.false_eq_true, if_true, if_false, ite_true, ite_false, String.reduceBEq, Bool.or_false, Bool.or_true, Bool.false_or, Bool.true_or, Bool.and_false, Bool.and_true, Bool.true_and, Bool.false_and, reduceIte, PV.int.injEq, exists_const, PV.tup.injEq, PV.lst.injEq, PV.ref.injEq, PV.ty.injEq, zIn, List.all_cons, List.all_nil, List.any_cons, List.any_nil, atP_0, atP_1, atP_2, flat_ints, Zz.any_ints, Nat.zero_le, IC.v, Nat.reduceLeDiff, forall_const, mset_mset, not_true_eq_false, not_false_eq_true, cpow9, pow9, cpow18, pow18, cpow30, pow30, ex2, Bool.true_eq_false, Int.cast_ofNat_Int, Int.ofNat_eq_natCast, flatP_non, flatP_bl, flatP_int, flatP_str, flatP_tup, flatP_lst, flatP_dct, eqF_ss, eqF_ii, eqF_bb, zB_Add_i, zB_Sub_i, zB_Mult_i, zB_FloorDiv_i, zB_Mod_i, zB_Pow_i, zB_BitAnd_i, zB_BitOr_i, zB_Add_s, zB_Add_t, zB_Add_l, zB_Mul_l, zIx_tup, zIx_lst, zIx_rol, zIx_str, zIx_mset, zLen_tup, zLen_lst, zLen_rol, zLen_str, zLen_mset, zInt_i, zInt_b, zTuple_t, zTuple_l, zTuple_m, zMax_ii, zMin_ii, zNeg_i, zNotV_b, zAllAny_l, wL_mset, szl0, szl1, szl2, szl3, szl4, szl5, szl6, szl7, szl8, szl9, szl10, szl11, szl12, szl13, szl14, szl15, szl16, szl17, szl18, szl19, szl20, szl21, szl22, szl23, szl24, szl25, szl26, szl27, szl28, szl29, szl30, szl31, szl32, szl33, szl34, szl35, szl36, szl37, szl38, szl39, szl40, szl41, szl42, szl43, szl44, szl45, szl46, szl47, szl48, szl49, szl50, szl51, szl52, szl53, szl54, szl55, szl56, szl57, szl58, szl59, szl60, szl61, szl62, szl63, szl64, szl65, szl66, szl67, szl68, szl69, frzV_ref, zfrz, Option.map_some, Option.map_none, frzV_non, frzV_bl, frzV_int, frzV_str, frzV_tup, frzV_lst, frzV_rol, frzV_dct]
    refine ⟨by decide, by decide, ?_⟩
    refine lc_all (fun _ y => pl y = true) _ (fun x hx N R hR => ?_) fun gs hgs => ?_
    · obtain ⟨i, hi, rfl⟩ := rngP_mem hx
      have hi' : i < 3 := hi
      try simp only [cut_map, zsp, zSs, zS, zE, zEs, zT, zBoVs, zBoTs, zA, zIfs, zI, zO, zG, zGs, zsCons, zsNil, zsIf, zsRet, zsRetN, zsExpr, zsAsg, zsPar, zsFor, zsSet, zsSetL, zsPass, zsBreak, zsCont, zsFrz, zEnds, zstart, z1, z2, zVar, zGet, zCst, zChain_eq, onB_bl, tOf, zNotT, zBoT, zBoV, zIf, zNil, zCons, zTup, zPart, zNoPart, zSl, zSlL, zCB, zCBL, zBF, zLM, LM.ty, IC.pv, zAbs, zList, zIsi, zVal, zRng1, zRng2, zEnum, Zz.gNm, Zz.gNil, Zz.gCons, Zz.gTup, zCall, zMt, zAppend, zExtend, zInsert, zPop, zReverse, zRev, zDct0, zDctK, zDctT, zYes, zLc, zwipe, zCmp, zEq, zIs, isNonP, List.map_cons, List.map_nil, List.cons_append, List.nil_append, List.replicate_succ, List.replicate_zero, List.length_cons, List.length_nil, List.set_cons_zero, List.set_cons_succ, List.getElem?_cons_zero, List.getElem?_cons_succ, Option.join_some, Nat.reduceAdd, Nat.reduceSub, Nat.zero_add, isiB, Bool.not_eq_true', decide_eq_false_iff_not, decide_eq_true_eq,  tyP_non, isDct_non, rs_non, tyP_bl, isDct_bl, rs_bl, tyP_int, isDct_int, rs_int, tyP_str, isDct_str, rs_str, tyP_tup, isDct_tup, rs_tup, tyP_lst, isDct_lst, rs_lst, tyP_rol, isDct_rol, rs_rol, tyP_dct, isDct_dct, rs_dct, asL_lst, asL_rol, asS_lst, asS_rol, asS_tup, asW_lst, asT_tup, asL_mset, asS_mset, asW_mset, refL_mset, isDct_mset, tyP_mset, rs_mset, Option.some.injEq, exists_eq_left', true_and, and_true, Bool.not_true, Bool.not_false, Bool.false_eq_true, if_true, if_false, ite_true, ite_false, String.reduceBEq, Bool.or_false, Bool.or_true, Bool.false_or, Bool.true_or, Bool.and_false, Bool.and_true, Bool.true_and, Bool.false_and, reduceIte, PV.int.injEq, exists_const, PV.tup.injEq, PV.lst.injEq, PV.ref.injEq, PV.ty.injEq, zIn, List.all_cons, List.all_nil, List.any_cons, List.any_nil, atP_0, atP_1, atP_2, flat_ints, Zz.any_ints, Nat.zero_le, IC.v, Nat.reduceLeDiff, forall_const, mset_mset, not_true_eq_false, not_false_eq_true, cpow9, pow9, cpow18, pow18, cpow30, pow30, ex2, Bool.true_eq_false, Int.cast_ofNat_Int, Int.ofNat_eq_natCast, flatP_non, flatP_bl, flatP_int, flatP_str, flatP_tup, flatP_lst, flatP_dct, eqF_ss, eqF_ii, eqF_bb, zB_Add_i, zB_Sub_i, zB_Mult_i, zB_FloorDiv_i, zB_Mod_i, zB_Pow_i, zB_BitAnd_i, zB_BitOr_i, zB_Add_s, zB_Add_t, zB_Add_l, zB_Mul_l, zIx_tup, zIx_lst, zIx_rol, zIx_str, zIx_mset, zLen_tup, zLen_lst, zLen_rol, zLen_str, zLen_mset, zInt_i, zInt_b, zTuple_t, zTuple_l, zTuple_m, zMax_ii, zMin_ii, zNeg_i, zNotV_b, zAllAny_l, wL_mset, szl0, szl1, szl2, szl3, szl4, szl5, szl6, szl7, szl8, szl9, szl10, szl11, szl12, szl13, szl14, szl15, szl16, szl17, szl18, szl19, szl20, szl21, szl22, szl23, szl24, szl25, szl26, szl27, szl28, szl29, szl30, szl31, szl32, szl33, szl34, szl35, szl36, szl37, szl38, szl39, szl40, szl41, szl42, szl43, szl44, szl45, szl46, szl47, szl48, szl49, szl50, szl51, szl52, szl53, szl54, szl55, szl56, szl57, szl58, szl59, szl60, szl61, szl62, szl63, szl64, szl65, szl66, szl67, szl68, szl69, frzV_ref, zfrz, Option.map_some, Option.map_none, frzV_non, frzV_bl, frzV_int, frzV_str, frzV_tup, frzV_lst, frzV_rol, frzV_dct]
      refine ⟨mulW (by omega) (by omega) (by omega) (by omega), sp_L_good_thing E (fun n hn => hd n (mem_cut hn)) ?_ hR⟩
      have := cut_from (xs := ds) (n := 15 + 9 * (0 + (i : Int))) (by omega) (by omega)
      omega
    · have hgl : gs.length = 3 := by
        have := forall2_len hgs
        rw [rngP_len] at this
        exact this
      have hat : ∀ y ∈ gs, pl y = true := forall2_mem hgs (fun _ _ _ h => h)
      refine ⟨Nat.le_trans (m := 3) (by omega) (by decide), ?_⟩
      refine sp_L_some_row E (fun n hn => hd n (mem_cut hn)) (by have := cut_from (xs := ds) (n := 42) (by decide) (by omega); omega) hgl (pls_all hat) hod fun row hrow => ?_
      try simp only [cut_map, zsp, zSs, zS, zE, zEs, zT, zBoVs, zBoTs, zA, zIfs, zI, zO, zG, zGs, zsCons, zsNil, zsIf, zsRet, zsRetN, zsExpr, zsAsg, zsPar, zsFor, zsSet, zsSetL, zsPass, zsBreak, zsCont, zsFrz, zEnds, zstart, z1, z2, zVar, zGet, zCst, zChain_eq, onB_bl, tOf, zNotT, zBoT, zBoV, zIf, zNil, zCons, zTup, zPart, zNoPart, zSl, zSlL, zCB, zCBL, zBF, zLM, LM.ty, IC.pv, zAbs, zList, zIsi, zVal, zRng1, zRng2, zEnum, Zz.gNm, Zz.gNil, Zz.gCons, Zz.gTup, zCall, zMt, zAppend, zExtend, zInsert, zPop, zReverse, zRev, zDct0, zDctK, zDctT, zYes, zLc, zwipe, zCmp, zEq, zIs, isNonP, List.map_cons, List.map_nil, List.cons_append, List.nil_append, List.replicate_succ, List.replicate_zero, List.length_cons, List.length_nil, List.set_cons_zero, List.set_cons_succ, List.getElem?_cons_zero, List.getElem?_cons_succ, Option.join_some, Nat.reduceAdd, Nat.reduceSub, Nat.zero_add, isiB, Bool.not_eq_true', decide_eq_false_iff_not, decide_eq_true_eq,  tyP_non, isDct_non, rs_non, tyP_bl, isDct_bl, rs_bl, tyP_int, isDct_int, rs_int, tyP_str, isDct_str, rs_str, tyP_tup, isDct_tup, rs_tup, tyP_lst, isDct_lst, rs_lst, tyP_rol, isDct_rol, rs_rol, tyP_dct, isDct_dct, rs_dct, asL_lst, asL_rol, asS_lst, asS_rol, asS_tup, asW_lst, asT_tup, asL_mset, asS_mset, asW_mset, refL_mset, isDct_mset, tyP_mset, rs_mset, Option.some.injEq, exists_eq_left', true_and, and_true, Bool.not_true, Bool.not_false, Bool.false_eq_true, if_true, if_false, ite_true, ite_false, String.reduceBEq, Bool.or_false, Bool.or_true, Bool.false_or, Bool.true_or, Bool.and_false, Bool.and_true, Bool.true_and, Bool.false_and, reduceIte, PV.int.injEq, exists_const, PV.tup.injEq, PV.lst.injEq, PV.ref.injEq, PV.ty.injEq, zIn, List.all_cons, List.all_nil, List.any_cons, List.any_nil, atP_0, atP_1, atP_2, flat_ints, Zz.any_ints, Nat.zero_le, IC.v, Nat.reduceLeDiff, forall_const, mset_mset, not_true_eq_false, not_false_eq_true, cpow9, pow9, cpow18, pow18, cpow30, pow30, ex2, Bool.true_eq_false, Int.cast_ofNat_Int, Int.ofNat_eq_natCast, flatP_non, flatP_bl, flatP_int, flatP_str, flatP_tup, flatP_lst, flatP_dct, eqF_ss, eqF_ii, eqF_bb, zB_Add_i, zB_Sub_i, zB_Mult_i, zB_FloorDiv_i, zB_Mod_i, zB_Pow_i, zB_BitAnd_i, zB_BitOr_i, zB_Add_s, zB_Add_t, zB_Add_l, zB_Mul_l, zIx_tup, zIx_lst, zIx_rol, zIx_str, zIx_mset, zLen_tup, zLen_lst, zLen_rol, zLen_str, zLen_mset, zInt_i, zInt_b, zTuple_t, zTuple_l, zTuple_m, zMax_ii, zMin_ii, zNeg_i, zNotV_b, zAllAny_l, wL_mset, szl0, szl1, szl2, szl3, szl4, szl5, szl6, szl7, szl8, szl9, szl10, szl11, szl12, szl13, szl14, szl15, szl16, szl17, szl18, szl19, szl20, szl21, szl22, szl23, szl24, szl25, szl26, szl27, szl28, szl29, szl30, szl31, szl32, szl33, szl34, szl35, szl36, szl37, szl38, szl39, szl40, szl41, szl42, szl43, szl44, szl45, szl46, szl47, szl48, szl49, szl50, szl51, szl52, szl53, szl54, szl55, szl56, szl57, szl58, szl59, szl60, szl61, szl62, szl63, szl64, szl65, szl66, szl67, szl68, szl69, frzV_ref, zfrz, Option.map_some, Option.map_none, frzV_non, frzV_bl, frzV_int, frzV_str, frzV_tup, frzV_lst, frzV_rol, frzV_dct]
      refine sp_L_some_order E (fun n hn => hd n (mem_cut hn)) (by have := cut_from (xs := ds) (n := 45) (by decide) (by omega); omega) fun ord hord => ?_
      try simp only [zsp, zSs, zS, zE, zEs, zT, zBoVs, zBoTs, zA, zIfs, zI, zO, zG, zGs, zsCons, zsNil, zsIf, zsRet, zsRetN, zsExpr, zsAsg, zsPar, zsFor, zsSet, zsSetL, zsPass, zsBreak, zsCont, zsFrz, zEnds, zstart, z1, z2, zVar, zGet, zCst, zChain_eq, onB_bl, tOf, zNotT, zBoT, zBoV, zIf, zNil, zCons, zTup, zPart, zNoPart, zSl, zSlL, zCB, zCBL, zBF, zLM, LM.ty, IC.pv, zAbs, zList, zIsi, zVal, zRng1, zRng2, zEnum, Zz.gNm, Zz.gNil, Zz.gCons, Zz.gTup, zCall, zMt, zAppend, zExtend, zInsert, zPop, zReverse, zRev, zDct0, zDctK, zDctT, zYes, zLc, zwipe, zCmp, zEq, zIs, isNonP, List.map_cons, List.map_nil, List.cons_append, List.nil_append, List.replicate_succ, List.replicate_zero, List.length_cons, List.length_nil, List.set_cons_zero, List.set_cons_succ, List.getElem?_cons_zero, List.getElem?_cons_succ, Option.join_some, Nat.reduceAdd, Nat.reduceSub, Nat.zero_add, isiB, Bool.not_eq_true', decide_eq_false_iff_not, decide_eq_true_eq,  tyP_non, isDct_non, rs_non, tyP_bl, isDct_bl, rs_bl, tyP_int, isDct_int, rs_int, tyP_str, isDct_str, rs_str, tyP_tup, isDct_tup, rs_tup, tyP_lst, isDct_lst, rs_lst, tyP_rol, isDct_rol, rs_rol, tyP_dct, isDct_dct, rs_dct, asL_lst, asL_rol, asS_lst, asS_rol, asS_tup, asW_lst, asT_tup, asL_mset, asS_mset, asW_mset, refL_mset, isDct_mset, tyP_mset, rs_mset, Option.some.injEq, exists_eq_left', true_and, and_true, Bool.not_true, Bool.not_false, Bool.false_eq_true, if_true, if_false, ite_true, ite_false, String.reduceBEq, Bool.or_false, Bool.or_true, Bool.false_or, Bool.true_or, Bool.and_false, Bool.and_true, Bool.true_and, Bool.false_and, reduceIte, PV.int.injEq, exists_const, PV.tup.injEq, PV.lst.injEq, PV.ref.injEq, PV.ty.injEq, zIn, List.all_cons, List.all_nil, List.any_cons, List.any_nil, atP_0, atP_1, atP_2, flat_ints, Zz.any_ints, Nat.zero_le, IC.v, Nat.reduceLeDiff, forall_const, mset_mset, not_true_eq_false, not_false_eq_true, cpow9, pow9, cpow18, pow18, cpow30, pow30, ex2, Bool.true_eq_false, Int.cast_ofNat_Int, Int.ofNat_eq_natCast, flatP_non, flatP_bl, flatP_int, flatP_str, flatP_tup, flatP_lst, flatP_dct, eqF_ss, eqF_ii, eqF_bb, zB_Add_i, zB_Sub_i, zB_Mult_i, zB_FloorDiv_i, zB_Mod_i, zB_Pow_i, zB_BitAnd_i, zB_BitOr_i, zB_Add_s, zB_Add_t, zB_Add_l, zB_Mul_l, zIx_tup, zIx_lst, zIx_rol, zIx_str, zIx_mset, zLen_tup, zLen_lst, zLen_rol, zLen_str, zLen_mset, zInt_i, zInt_b, zTuple_t, zTuple_l, zTuple_m, zMax_ii, zMin_ii, zNeg_i, zNotV_b, zAllAny_l, wL_mset, szl0, szl1, szl2, szl3, szl4, szl5, szl6, szl7, szl8, szl9, szl10, szl11, szl12, szl13, szl14, szl15, szl16, szl17, szl18, szl19, szl20, szl21, szl22, szl23, szl24, szl25, szl26, szl27, szl28, szl29, szl30, szl31, szl32, szl33, szl34, szl35, szl36, szl37, szl38, szl39, szl40, szl41, szl42, szl43, szl44, szl45, szl46, szl47, szl48, szl49, szl50, szl51, szl52, szl53, szl54, szl55, szl56, szl57, szl58, szl59, szl60, szl61, szl62, szl63, szl64, szl65, szl66, szl67, szl68, szl69, frzV_ref, zfrz, Option.map_some, Option.map_none, frzV_non, frzV_bl, frzV_int, frzV_str, frzV_tup, frzV_lst, frzV_rol, frzV_dct]
      refine atP_all (by decide) (by omega) fun g0 hg0 => ?_
      refine for_inv (fun r z N' => ∃ a b c d e f g h : Option PV, (∀ x ∈ r, pl x = true) ∧ N' = N ∧ z = [some (.rol (ns.map .int)), a, b, c, d, e, f, g, h]) ?_ ?_ _ _ _ ⟨_, _, _, _, _, _, _, _, ?_, rfl, rfl⟩
      · rintro z N ⟨a, b, c, d, e, f, g, h, _, rfl, rfl⟩
        try simp only [zsp, zSs, zS, zE, zEs, zT, zBoVs, zBoTs, zA, zIfs, zI, zO, zG, zGs, zsCons, zsNil, zsIf, zsRet, zsRetN, zsExpr, zsAsg, zsPar, zsFor, zsSet, zsSetL, zsPass, zsBreak, zsCont, zsFrz, zEnds, zstart, z1, z2, zVar, zGet, zCst, zChain_eq, onB_bl, tOf, zNotT, zBoT, zBoV, zIf, zNil, zCons, zTup, zPart, zNoPart, zSl, zSlL, zCB, zCBL, zBF, zLM, LM.ty, IC.pv, zAbs, zList, zIsi, zVal, zRng1, zRng2, zEnum, Zz.gNm, Zz.gNil, Zz.gCons, Zz.gTup, zCall, zMt, zAppend, zExtend, zInsert, zPop, zReverse, zRev, zDct0, zDctK, zDctT, zYes, zLc, zwipe, zCmp, zEq, zIs, isNonP, List.map_cons, List.map_nil, List.cons_append, List.nil_append, List.replicate_succ, List.replicate_zero, List.length_cons, List.length_nil, List.set_cons_zero, List.set_cons_succ, List.getElem?_cons_zero, List.getElem?_cons_succ, Option.join_some, Nat.reduceAdd, Nat.reduceSub, Nat.zero_add, isiB, Bool.not_eq_true', decide_eq_false_iff_not, decide_eq_true_eq,  tyP_non, isDct_non, rs_non, tyP_bl, isDct_bl, rs_bl, tyP_int, isDct_int, rs_int, tyP_str, isDct_str, rs_str, tyP_tup, isDct_tup, rs_tup, tyP_lst, isDct_lst, rs_lst, tyP_rol, isDct_rol, rs_rol, tyP_dct, isDct_dct, rs_dct, asL_lst, asL_rol, asS_lst, asS_rol, asS_tup, asW_lst, asT_tup, asL_mset, asS_mset, asW_mset, refL_mset, isDct_mset, tyP_mset, rs_mset, Option.some.injEq, exists_eq_left', true_and, and_true, Bool.not_true, Bool.not_false, Bool.false_eq_true, if_true, if_false, ite_true, ite_false, String.reduceBEq, Bool.or_false, Bool.or_true, Bool.false_or, Bool.true_or, Bool.and_false, Bool.and_true, Bool.true_and, Bool.false_and, reduceIte, PV.int.injEq, exists_const, PV.tup.injEq, PV.lst.injEq, PV.ref.injEq, PV.ty.injEq, zIn, List.all_cons, List.all_nil, List.any_cons, List.any_nil, atP_0, atP_1, atP_2, flat_ints, Zz.any_ints, Nat.zero_le, IC.v, Nat.reduceLeDiff, forall_const, mset_mset, not_true_eq_false, not_false_eq_true, cpow9, pow9, cpow18, pow18, cpow30, pow30, ex2, Bool.true_eq_false, Int.cast_ofNat_Int, Int.ofNat_eq_natCast, flatP_non, flatP_bl, flatP_int, flatP_str, flatP_tup, flatP_lst, flatP_dct, eqF_ss, eqF_ii, eqF_bb, zB_Add_i, zB_Sub_i, zB_Mult_i, zB_FloorDiv_i, zB_Mod_i, zB_Pow_i, zB_BitAnd_i, zB_BitOr_i, zB_Add_s, zB_Add_t, zB_Add_l, zB_Mul_l, zIx_tup, zIx_lst, zIx_rol, zIx_str, zIx_mset, zLen_tup, zLen_lst, zLen_rol, zLen_str, zLen_mset, zInt_i, zInt_b, zTuple_t, zTuple_l, zTuple_m, zMax_ii, zMin_ii, zNeg_i, zNotV_b, zAllAny_l, wL_mset, szl0, szl1, szl2, szl3, szl4, szl5, szl6, szl7, szl8, szl9, szl10, szl11, szl12, szl13, szl14, szl15, szl16, szl17, szl18, szl19, szl20, szl21, szl22, szl23, szl24, szl25, szl26, szl27, szl28, szl29, szl30, szl31, szl32, szl33, szl34, szl35, szl36, szl37, szl38, szl39, szl40, szl41, szl42, szl43, szl44, szl45, szl46, szl47, szl48, szl49, szl50, szl51, szl52, szl53, szl54, szl55, szl56, szl57, szl58, szl59, szl60, szl61, szl62, szl63, szl64, szl65, szl66, szl67, szl68, szl69, frzV_ref, zfrz, Option.map_some, Option.map_none, frzV_non, frzV_bl, frzV_int, frzV_str, frzV_tup, frzV_lst, frzV_rol, frzV_dct]
        exact hK _ _ ⟨_, _, _, _, _, _, _, _, fun x hx => hr x (List.mem_cons_of_mem _ hx), rfl, rfl⟩
      · rintro y r2 z N K2 ⟨a, b, c, d, e, f, g, h, hr2, rfl, rfl⟩ hK2
        try simp only [zsp, zSs, zS, zE, zEs, zT, zBoVs, zBoTs, zA, zIfs, zI, zO, zG, zGs, zsCons, zsNil, zsIf, zsRet, zsRetN, zsExpr, zsAsg, zsPar, zsFor, zsSet, zsSetL, zsPass, zsBreak, zsCont, zsFrz, zEnds, zstart, z1, z2, zVar, zGet, zCst, zChain_eq, onB_bl, tOf, zNotT, zBoT, zBoV, zIf, zNil, zCons, zTup, zPart, zNoPart, zSl, zSlL, zCB, zCBL, zBF, zLM, LM.ty, IC.pv, zAbs, zList, zIsi, zVal, zRng1, zRng2, zEnum, Zz.gNm, Zz.gNil, Zz.gCons, Zz.gTup, zCall, zMt, zAppend, zExtend, zInsert, zPop, zReverse, zRev, zDct0, zDctK, zDctT, zYes, zLc, zwipe, zCmp, zEq, zIs, isNonP, List.map_cons, List.map_nil, List.cons_append, List.nil_append, List.replicate_succ, List.replicate_zero, List.length_cons, List.length_nil, List.set_cons_zero, List.set_cons_succ, List.getElem?_cons_zero, List.getElem?_cons_succ, Option.join_some, Nat.reduceAdd, Nat.reduceSub, Nat.zero_add, isiB, Bool.not_eq_true', decide_eq_false_iff_not, decide_eq_true_eq,  tyP_non, isDct_non, rs_non, tyP_bl, isDct_bl, rs_bl, tyP_int, isDct_int, rs_int, tyP_str, isDct_str, rs_str, tyP_tup, isDct_tup, rs_tup, tyP_lst, isDct_lst, rs_lst, tyP_rol, isDct_rol, rs_rol, tyP_dct, isDct_dct, rs_dct, asL_lst, asL_rol, asS_lst, asS_rol, asS_tup, asW_lst, asT_tup, asL_mset, asS_mset, asW_mset, refL_mset, isDct_mset, tyP_mset, rs_mset, Option.some.injEq, exists_eq_left', true_and, and_true, Bool.not_true, Bool.not_false, Bool.false_eq_true, if_true, if_false, ite_true, ite_false, String.reduceBEq, Bool.or_false, Bool.or_true, Bool.false_or, Bool.true_or, Bool.and_false, Bool.and_true, Bool.true_and, Bool.false_and, reduceIte, PV.int.injEq, exists_const, PV.tup.injEq, PV.lst.injEq, PV.ref.injEq, PV.ty.injEq, zIn, List.all_cons, List.all_nil, List.any_cons, List.any_nil, atP_0, atP_1, atP_2, flat_ints, Zz.any_ints, Nat.zero_le, IC.v, Nat.reduceLeDiff, forall_const, mset_mset, not_true_eq_false, not_false_eq_true, cpow9, pow9, cpow18, pow18, cpow30, pow30, ex2, Bool.true_eq_false, Int.cast_ofNat_Int, Int.ofNat_eq_natCast, flatP_non, flatP_bl, flatP_int, flatP_str, flatP_tup, flatP_lst, flatP_dct, eqF_ss, eqF_ii, eqF_bb, zB_Add_i, zB_Sub_i, zB_Mult_i, zB_FloorDiv_i, zB_Mod_i, zB_Pow_i, zB_BitAnd_i, zB_BitOr_i, zB_Add_s, zB_Add_t, zB_Add_l, zB_Mul_l, zIx_tup, zIx_lst, zIx_rol, zIx_str, zIx_mset, zLen_tup, zLen_lst, zLen_rol, zLen_str, zLen_mset, zInt_i, zInt_b, zTuple_t, zTuple_l, zTuple_m, zMax_ii, zMin_ii, zNeg_i, zNotV_b, zAllAny_l, wL_mset, szl0, szl1, szl2, szl3, szl4, szl5, szl6, szl7, szl8, szl9, szl10, szl11, szl12, szl13, szl14, szl15, szl16, szl17, szl18, szl19, szl20, szl21, szl22, szl23, szl24, szl25, szl26, szl27, szl28, szl29, szl30, szl31, szl32, szl33, szl34, szl35, szl36, szl37, szl38, szl39, szl40, szl41, szl42, szl43, szl44, szl45, szl46, szl47, szl48, szl49, szl50, szl51, szl52, szl53, szl54, szl55, szl56, szl57, szl58, szl59, szl60, szl61, szl62, szl63, szl64, szl65, szl66, szl67, szl68, szl69, frzV_ref, zfrz, Option.map_some, Option.map_none, frzV_non, frzV_bl, frzV_int, frzV_str, frzV_tup, frzV_lst, frzV_rol, frzV_dct]
        refine sp_L_told_right E (hr2 y (List.mem_cons_self ..)) ?_
        try simp only [zsp, zSs, zS, zE, zEs, zT, zBoVs, zBoTs, zA, zIfs, zI, zO, zG, zGs, zsCons, zsNil, zsIf, zsRet, zsRetN, zsExpr, zsAsg, zsPar, zsFor, zsSet, zsSetL, zsPass, zsBreak, zsCont, zsFrz, zEnds, zstart, z1, z2, zVar, zGet, zCst, zChain_eq, onB_bl, tOf, zNotT, zBoT, zBoV, zIf, zNil, zCons, zTup, zPart, zNoPart, zSl, zSlL, zCB, zCBL, zBF, zLM, LM.ty, IC.pv, zAbs, zList, zIsi, zVal, zRng1, zRng2, zEnum, Zz.gNm, Zz.gNil, Zz.gCons, Zz.gTup, zCall, zMt, zAppend, zExtend, zInsert, zPop, zReverse, zRev, zDct0, zDctK, zDctT, zYes, zLc, zwipe, zCmp, zEq, zIs, isNonP, List.map_cons, List.map_nil, List.cons_append, List.nil_append, List.replicate_succ, List.replicate_zero, List.length_cons, List.length_nil, List.set_cons_zero, List.set_cons_succ, List.getElem?_cons_zero, List.getElem?_cons_succ, Option.join_some, Nat.reduceAdd, Nat.reduceSub, Nat.zero_add, isiB, Bool.not_eq_true', decide_eq_false_iff_not, decide_eq_true_eq,  tyP_non, isDct_non, rs_non, tyP_bl, isDct_bl, rs_bl, tyP_int, isDct_int, rs_int, tyP_str, isDct_str, rs_str, tyP_tup, isDct_tup, rs_tup, tyP_lst, isDct_lst, rs_lst, tyP_rol, isDct_rol, rs_rol, tyP_dct, isDct_dct, rs_dct, asL_lst, asL_rol, asS_lst, asS_rol, asS_tup, asW_lst, asT_tup, asL_mset, asS_mset, asW_mset, refL_mset, isDct_mset, tyP_mset, rs_mset, Option.some.injEq, exists_eq_left', true_and, and_true, Bool.not_true, Bool.not_false, Bool.false_eq_true, if_true, if_false, ite_true, ite_false, String.reduceBEq, Bool.or_false, Bool.or_true, Bool.false_or, Bool.true_or, Bool.and_false, Bool.and_true, Bool.true_and, Bool.false_and, reduceIte, PV.int.injEq, exists_const, PV.tup.injEq, PV.lst.injEq, PV.ref.injEq, PV.ty.injEq, zIn, List.all_cons, List.all_nil, List.any_cons, List.any_nil, atP_0, atP_1, atP_2, flat_ints, Zz.any_ints, Nat.zero_le, IC.v, Nat.reduceLeDiff, forall_const, mset_mset, not_true_eq_false, not_false_eq_true, cpow9, pow9, cpow18, pow18, cpow30, pow30, ex2, Bool.true_eq_false, Int.cast_ofNat_Int, Int.ofNat_eq_natCast, flatP_non, flatP_bl, flatP_int, flatP_str, flatP_tup, flatP_lst, flatP_dct, eqF_ss, eqF_ii, eqF_bb, zB_Add_i, zB_Sub_i, zB_Mult_i, zB_FloorDiv_i, zB_Mod_i, zB_Pow_i, zB_BitAnd_i, zB_BitOr_i, zB_Add_s, zB_Add_t, zB_Add_l, zB_Mul_l, zIx_tup, zIx_lst, zIx_rol, zIx_str, zIx_mset, zLen_tup, zLen_lst, zLen_rol, zLen_str, zLen_mset, zInt_i, zInt_b, zTuple_t, zTuple_l, zTuple_m, zMax_ii, zMin_ii, zNeg_i, zNotV_b, zAllAny_l, wL_mset, szl0, szl1, szl2, szl3, szl4, szl5, szl6, szl7, szl8, szl9, szl10, szl11, szl12, szl13, szl14, szl15, szl16, szl17, szl18, szl19, szl20, szl21, szl22, szl23, szl24, szl25, szl26, szl27, szl28, szl29, szl30, szl31, szl32, szl33, szl34, szl35, szl36, szl37, szl38, szl39, szl40, szl41, szl42, szl43, szl44, szl45, szl46, szl47, szl48, szl49, szl50, szl51, szl52, szl53, szl54, szl55, szl56, szl57, szl58, szl59, szl60, szl61, szl62, szl63, szl64, szl65, szl66, szl67, szl68, szl69, frzV_ref, zfrz, Option.map_some, Option.map_none, frzV_non, frzV_bl, frzV_int, frzV_str, frzV_tup, frzV_lst, frzV_rol, frzV_dct]
        exact hK2 _ _ ⟨_, _, _, _, _, _, _, _, fun x hx => hr2 x (List.mem_cons_of_mem _ hx), rfl, rfl⟩
      · intro x hx
        simp only [List.mem_cons, List.not_mem_nil, or_false] at hx
        rcases hx with rfl | rfl | rfl | rfl
        · exact hod
        · exact hat _ hg0
        · exact hrow
        · exact hord
  · intro x hx
    obtain ⟨j, hj, rfl⟩ := rngP_mem hx
    exact ⟨j, by omega, by rw [Int.zero_add]⟩
end Lk01
end
section
set_option maxHeartbeats 0
namespace Lk01
open PySem PySem.Spec PyProof.Rows L2 Zz
abbrev R : PySem.W.OpenRow := PySem.W.OpenLaw.row PySem.Challenge.rw_nearmerge_k01_what_things_rows_and_order
def hfn : List He.DefD := ds.map DDef.he ++ []
def hfa : List He.Fa := factsOf csts fns ++ []
abbrev hk : PySem.W.Hook := He.hookD 4 hfa hfn
def ob (s : PySem.W.SharedT) : He.AlD := He.obsDG 4 hfa hfn (HandSHeadRun.getT s)
theorem ob_eq (s : PySem.W.SharedT) : ob s = hk.obs s.abs := He.obsDG_eq (HandSHeadRun.getT_eq s)
theorem run (w : World) : HandSHeadRun.RunEq R (PySem.W.view R.prog [lawAt]) hk ob 4000 loose w := by
  intro os
  kernel_rfl
end Lk01
open PySem PySem.W PySem.Calls PyProof.Rows
theorem PySem.Challenge.cw_nearmerge_k01_what_things_rows_and_order_holds : PySem.Challenge.rw_nearmerge_k01_what_things_rows_and_order.Holds := by
  w_on; o_law
  refine HandSHeadRun.head_any (r := OpenLaw.row PySem.Challenge.rw_nearmerge_k01_what_things_rows_and_order) (q := view (OpenLaw.row PySem.Challenge.rw_nearmerge_k01_what_things_rows_and_order).prog [Lk01.lawAt]) (H := Lk01.hk) (ob := Lk01.ob) (M := 4000) (loose := Lk01.loose) (d := HandSHeadRun.topDef (OpenLaw.row PySem.Challenge.rw_nearmerge_k01_what_things_rows_and_order).prog Lk01.lawAt) (kwd := []) Lk01.ob_eq
    (by kernel_rfl) (fun s => by kernel_rfl) Lk01.run (by kernel_rfl) (by kernel_rfl) (by kernel_rfl) (by rfl) (by first | assumption | decide +kernel) (by decide +kernel) ⟨rfl, rfl, rfl, rfl, rfl, by decide +kernel⟩ ?hw ?hc
  case hw => w_witness2
  case hc =>
    refine Zz.walk_ofEW (l := PySem.Challenge.rw_nearmerge_k01_what_things_rows_and_order) (n := 63) (k := 12 + 1) (x := "_law_script") rfl (by decide) (by kernel_rfl) ⟨rfl, by decide, by decide⟩ ?F
    case F =>
      intro w mg fa h Y G hmg0
      obtain ⟨K, KX, c⟩ := Y
      have hmg : mg Lk01.d_law.nm = some (.ref fa) := by
        have e : (HandSHeadRun.topDef (OpenLaw.row PySem.Challenge.rw_nearmerge_k01_what_things_rows_and_order).prog Lk01.lawAt).name = ("law" : PySem.Str) := by kernel_rfl
        exact (congrArg mg e.symm).trans hmg0
      obtain ⟨fd, sp, hb, hs, hF⟩ := Zz.law_facts (cs := Lk01.csts) (fs := Lk01.fns) (ds := Lk01.ds) (more := []) (fmore := []) (P := (PySem.Challenge.rw_nearmerge_k01_what_things_rows_and_order).prog) (d := Lk01.d_law) (lv := 12) (x := "_law_script") (List.mem_of_getElem? (i := Lk01.lawIx) rfl) rfl Lk01.sc_law Lk01.bd_law Lk01.ck_law (by decide +kernel) (fun w K mg base E => Lk01.law_ok E) KX G hmg c
      exact ⟨K, fd, sp, KX, hb, hs, hF⟩
end

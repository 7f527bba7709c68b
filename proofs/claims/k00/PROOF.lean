import PyProof.Rows.All
import Wide.All
import OpenK.AllK
import Wide.FinOn
import PySem.Challenge.RW_picksuntold_k00_numbers_by_hand
import HandS.ForMost
import HandS.Exc
import HandS.ExcOwn
import HandS.WordsExc
import HandS.TupAny
import HandS.CallSlots
import HandS.TryOnly
import HandS.Wide
import HandS.IsInst
import HandS.TupMul
import HandS.Deep
import HandS.Zip
import HandS.ExcIs
import HandS.Ends
set_option Elab.async false
set_option linter.all false
set_option maxRecDepth 100000
set_option autoImplicit false
namespace M
open PySem PySem.Spec PyProof.Rows L2

abbrev St := L2.St
/-- plain data -/
inductive D where
  | non | bl (b : Bool) | int (i : Int) | str (x : Str)
  | tup (l : List D) | lst (l : List D) | bor (l : List D)

mutual
inductive Rd (K : PySem.W.Frag) (F : Hp) : D → V → Prop
  | non : Rd K F .non .non
  | bl (b : Bool) : Rd K F (.bl b) (.bl b)
  | int (i : Int) : Rd K F (.int i) (.int i)
  | str (x : Str) (h : PySem.PyData.strOk x = true) : Rd K F (.str x) (.str x)
  | tup {a : Addr} {vs : List V} {l : List D} : SqT K F a vs → RdL K F l vs → Rd K F (.tup l) (.ref a)
  | lst {a : Addr} {vs : List V} {l : List D} : F a = some (.lst vs) → RdL K F l vs → Rd K F (.lst l) (.ref a)
inductive RdL (K : PySem.W.Frag) (F : Hp) : List D → List V → Prop
  | nil : RdL K F [] []
  | cons {d : D} {l : List D} {v : V} {vs : List V} : Rd K F d v → RdL K F l vs → RdL K F (d :: l) (v :: vs)
end

theorem SqT.same {K : PySem.W.Frag} {H H' : Hp} {a : Addr} {xs : List V} (e : Same H H') (h : SqT K H a xs) : SqT K H' a xs := by
  rcases h with (h | ⟨o, h⟩) | h
  · exact .inl (.inl (e _ _ h))
  · exact .inl (.inr ⟨o, e _ _ h⟩)
  · exact .inr h
mutual
theorem Rd.same {K : PySem.W.Frag} {F F' : Hp} (e : Same F F') : ∀ {d : D} {v : V}, Rd K F d v → Rd K F' d v
  | _, _, .non => .non
  | _, _, .bl b => .bl b
  | _, _, .int i => .int i
  | _, _, .str x h => .str x h
  | _, _, .tup s h => .tup (SqT.same e s) (RdL.same e h)
  | _, _, .lst s h => .lst (e _ _ s) (RdL.same e h)
theorem RdL.same {K : PySem.W.Frag} {F F' : Hp} (e : Same F F') : ∀ {l : List D} {vs : List V}, RdL K F l vs → RdL K F' l vs
  | _, _, .nil => .nil
  | _, _, .cons r h => .cons (Rd.same e r) (RdL.same e h)
end
theorem RdL.length {K : PySem.W.Frag} {F : Hp} : ∀ {l : List D} {vs : List V}, RdL K F l vs → l.length = vs.length
  | _, _, .nil => rfl
  | _, _, .cons _ h => congrArg (· + 1) h.length
theorem RdL.get {K : PySem.W.Frag} {F : Hp} : ∀ {l : List D} {vs : List V} {i : Nat} {d : D}, RdL K F l vs → l[i]? = some d → ∃ v, vs[i]? = some v ∧ Rd K F d v
  | _, _, _, _, .nil, e => by simp at e
  | _, _, 0, _, .cons r _, e => by simp at e; subst e; exact ⟨_, rfl, r⟩
  | _, _, i + 1, _, .cons _ h, e => by
    obtain ⟨v, a, b⟩ := RdL.get (i := i) h (by simpa using e)
    exact ⟨v, by simpa using a, b⟩
theorem RdL.append {K : PySem.W.Frag} {F : Hp} : ∀ {l l' : List D} {vs vs' : List V}, RdL K F l vs → RdL K F l' vs' → RdL K F (l ++ l') (vs ++ vs')
  | _, _, _, _, .nil, s => s
  | _, _, _, _, .cons r t, s => .cons r (RdL.append t s)
theorem RdL.take {K : PySem.W.Frag} {F : Hp} : ∀ {l : List D} {vs : List V} (n : Nat), RdL K F l vs → RdL K F (l.take n) (vs.take n)
  | _, _, 0, _ => .nil
  | _, _, _ + 1, .nil => .nil
  | _, _, n + 1, .cons r t => .cons r (RdL.take n t)
theorem RdL.drop {K : PySem.W.Frag} {F : Hp} : ∀ {l : List D} {vs : List V} (n : Nat), RdL K F l vs → RdL K F (l.drop n) (vs.drop n)
  | _, _, 0, r => r
  | _, _, _ + 1, .nil => .nil
  | _, _, n + 1, .cons _ t => RdL.drop n t
theorem RdL.set {K : PySem.W.Frag} {F : Hp} {x : V} {u : D} (r : Rd K F u x) : ∀ {l : List D} {vs : List V} (i : Nat), RdL K F l vs → RdL K F (l.set i u) (vs.set i x)
  | _, _, _, .nil => .nil
  | _, _, 0, .cons _ t => .cons r t
  | _, _, i + 1, .cons q t => .cons q (RdL.set r i t)
theorem RdL.flatRep {K : PySem.W.Frag} {F : Hp} {l : List D} {vs : List V} (h : RdL K F l vs) : ∀ n : Nat, RdL K F (List.replicate n l).flatten (List.replicate n vs).flatten
  | 0 => .nil
  | n + 1 => by
    rw [List.replicate_succ, List.replicate_succ, List.flatten_cons, List.flatten_cons]
    exact h.append (RdL.flatRep h n)

/-- a value as it is read at the heap H, the frozen part F -/
def RdT (K : PySem.W.Frag) (F H : Hp) : D → V → Prop
  | .bor l, v => ∃ a vs, v = .ref a ∧ H a = some (.lst vs) ∧ RdL K F l vs
  | d, v => Rd K F d v
theorem RdT.of {K : PySem.W.Frag} {F H : Hp} {d : D} {v : V} (h : Rd K F d v) : RdT K F H d v := by
  cases h <;> first | exact .non | exact .bl _ | exact .int _ | exact .str _ (by assumption) | exact .tup (by assumption) (by assumption) | exact .lst (by assumption) (by assumption)
/-- no borrowed list -/
def D.solid : D → Bool
  | .bor _ => false
  | _ => true
theorem RdT.rd {K : PySem.W.Frag} {F H : Hp} {d : D} {v : V} (h : RdT K F H d v) (s : d.solid = true) : Rd K F d v := by
  cases d <;> first | exact h | cases s
theorem RdT.same {K : PySem.W.Frag} {F H F' H' : Hp} (eF : Same F F') (eH : Same H H') {d : D} {v : V} (h : RdT K F H d v) : RdT K F' H' d v := by
  cases d with
  | bor l => obtain ⟨a, vs, rfl, h1, h2⟩ := h; exact ⟨a, vs, rfl, eH _ _ h1, h2.same eF⟩
  | _ => exact Rd.same eF h

/-- how the heaps grow: F the frozen part, H the heap -/
structure Ext (F H F' H' : Hp) : Prop where
  f : Same F F'
  h : Same H H'
  sub : Same F' H'
  new : ∀ a o, F' a = some o → F a = some o ∨ H a = none
theorem Ext.refl {F H : Hp} (s : Same F H) : Ext F H F H := ⟨Same.refl _, Same.refl _, s, fun _ _ h => .inl h⟩
theorem Ext.trans {F H F1 H1 F2 H2 : Hp} (a : Ext F H F1 H1) (b : Ext F1 H1 F2 H2) : Ext F H F2 H2 :=
  ⟨a.f.trans b.f, a.h.trans b.h, b.sub, fun x o h => by
    rcases b.new x o h with h | h
    · exact a.new x o h
    · exact .inr (a.h.free h)⟩
/-- a new frozen object -/
theorem Ext.put {F H : Hp} (s : Same F H) {p : Addr} (np : H p = none) (o : HO) : Ext F H (upd F p o) (upd H p o) := by
  refine ⟨fun b u e => ?_, fun b u e => ?_, fun b u e => ?_, fun b u e => ?_⟩
  · rw [upd_ne (ne_of_none (s _ _ e) np)]; exact e
  · rw [upd_ne (ne_of_none e np)]; exact e
  · by_cases h : b = p
    · subst h; rw [upd_same] at e ⊢; exact e
    · rw [upd_ne h] at e ⊢; exact s _ _ e
  · by_cases h : b = p
    · subst h; exact .inr np
    · rw [upd_ne h] at e; exact .inl e
/-- a new object that is not frozen -/
theorem Ext.add {F H : Hp} (s : Same F H) {p : Addr} (np : H p = none) (o : HO) : Ext F H F (upd H p o) := by
  refine ⟨Same.refl _, fun b u e => ?_, fun b u e => ?_, fun b u e => .inl e⟩
  · rw [upd_ne (ne_of_none e np)]; exact e
  · rw [upd_ne (ne_of_none (s _ _ e) np)]; exact s _ _ e

/-! ### slots -/
inductive Sl where
  | no | dat (d : D) | own (l : List D)
abbrev En := List Sl
/-- a slot's address, if it is a list of its own -/
def ownAt (σ : St) (i : Nat) : Sl → Option Addr
  | .own _ => (match σ[i]? with | some (some (.ref a)) => some a | _ => none)
  | _ => none
def SlOk (K : PySem.W.Frag) (F H : Hp) (x : Option (Option V)) : Sl → Prop
  | .no => True
  | .dat d => ∃ v, x = some (some v) ∧ Rd K F d v
  | .own l => ∃ a vs, x = some (some (.ref a)) ∧ H a = some (.lst vs) ∧ F a = none ∧ RdL K F l vs
structure Stt (K : PySem.W.Frag) (F : Hp) (e : En) (σ : St) (H : Hp) : Prop where
  sub : Same F H
  len : e.length = σ.length
  at_ : ∀ (i : Nat) (s : Sl), e[i]? = some s → SlOk K F H σ[i]? s
  apart : ∀ (i j : Nat) (l l' : List D) (a : Addr), e[i]? = some (.own l) → e[j]? = some (.own l') → σ[i]? = some (some (.ref a)) → σ[j]? = some (some (.ref a)) → i = j
theorem SlOk.ext {K : PySem.W.Frag} {F H F' H' : Hp} {x : Option (Option V)} {s : Sl} (h : SlOk K F H x s) (e : Ext F H F' H') : SlOk K F' H' x s := by
  cases s with
  | no => trivial
  | dat d => obtain ⟨v, h1, h2⟩ := h; exact ⟨v, h1, h2.same e.f⟩
  | own l =>
    obtain ⟨a, vs, h1, h2, h3, h4⟩ := h
    refine ⟨a, vs, h1, e.h _ _ h2, ?_, h4.same e.f⟩
    cases q : F' a with
    | none => rfl
    | some o =>
      rcases e.new a o q with z | z
      · rw [h3] at z; cases z
      · rw [h2] at z; cases z
theorem Stt.ext {K : PySem.W.Frag} {F : Hp} {e : En} {σ : St} {H F' H' : Hp} (st : Stt K F e σ H) (x : Ext F H F' H') : Stt K F' e σ H' :=
  ⟨x.sub, st.len, fun i s h => (st.at_ i s h).ext x, st.apart⟩

/-! ### results -/
inductive Res (α : Type) where
  | ok (a : α) | exc (c : Nat) | bad
def Res.bind {α β : Type} (r : Res α) (f : α → Res β) : Res β := match r with
  | .ok a => f a
  | .exc c => .exc c
  | .bad => .bad
abbrev CE := En → Res D
abbrev CT := En → Res Bool
abbrev CA := En → Res (List D)

section
variable (K : PySem.W.Frag) (cl : Nat → Value) (W : WX)
/-- what is wanted behind an expression -/
def PostE (F H : Hp) (σ : St) (Q : VK) : Res D → Prop
  | .ok d => ∀ F' H' v, Ext F H F' H' → RdT K F' H' d v → Q v H'
  | .exc c => ∀ F' H', Ext F H F' H' → W (cl c) none σ H'
  | .bad => False
def PostT (F H : Hp) (σ : St) (Q : Bool → Hp → Prop) : Res Bool → Prop
  | .ok b => ∀ F' H', Ext F H F' H' → Q b H'
  | .exc c => ∀ F' H', Ext F H F' H' → W (cl c) none σ H'
  | .bad => False
def PostA (F H : Hp) (σ : St) (Q : List V → Hp → Prop) : Res (List D) → Prop
  | .ok l => ∀ F' H' vs, Ext F H F' H' → RdL K F' l vs → Q vs H'
  | .exc c => ∀ F' H', Ext F H F' H' → W (cl c) none σ H'
  | .bad => False
/-- a new list: its address still free -/
def PostN (F H : Hp) (σ : St) (Q : VK) : Res (List D) → Prop
  | .ok l => ∀ F' H' p vs, Ext F H F' H' → H' p = none → RdL K F' l vs → vs.length ≤ sizeLine → Q (.ref p) (upd H' p (.lst vs))
  | .exc c => ∀ F' H', Ext F H F' H' → W (cl c) none σ H'
  | .bad => False
def tp (A : CE) : TE := fun σ H Q => ∃ F e, Stt K F e σ H ∧ PostE K cl W F H σ Q (A e)
def tt (A : CT) : TT := fun σ H Q => ∃ F e, Stt K F e σ H ∧ PostT cl W F H σ Q (A e)
def ta (A : CA) : TA := fun σ H Q => ∃ F e, Stt K F e σ H ∧ PostA K cl W F H σ Q (A e)
def tn (A : CA) : TE := fun σ H Q => ∃ F e, Stt K F e σ H ∧ PostN K cl W F H σ Q (A e)
end
section
variable {K : PySem.W.Frag} {cl : Nat → Value} {W : WX} {F H F' H' : Hp} {σ : St}
theorem PostE.ext {Q : VK} {r : Res D} (h : PostE K cl W F H σ Q r) (x : Ext F H F' H') : PostE K cl W F' H' σ Q r := by
  cases r with
  | ok d => exact fun F2 H2 v y => h F2 H2 v (x.trans y)
  | exc c => exact fun F2 H2 y => h F2 H2 (x.trans y)
  | bad => exact h
theorem PostT.ext {Q : Bool → Hp → Prop} {r : Res Bool} (h : PostT cl W F H σ Q r) (x : Ext F H F' H') : PostT cl W F' H' σ Q r := by
  cases r with
  | ok d => exact fun F2 H2 y => h F2 H2 (x.trans y)
  | exc c => exact fun F2 H2 y => h F2 H2 (x.trans y)
  | bad => exact h
theorem PostA.ext {Q : List V → Hp → Prop} {r : Res (List D)} (h : PostA K cl W F H σ Q r) (x : Ext F H F' H') : PostA K cl W F' H' σ Q r := by
  cases r with
  | ok d => exact fun F2 H2 v y => h F2 H2 v (x.trans y)
  | exc c => exact fun F2 H2 y => h F2 H2 (x.trans y)
  | bad => exact h
theorem PostN.ext {Q : VK} {r : Res (List D)} (h : PostN K cl W F H σ Q r) (x : Ext F H F' H') : PostN K cl W F' H' σ Q r := by
  cases r with
  | ok d => exact fun F2 H2 p v y => h F2 H2 p v (x.trans y)
  | exc c => exact fun F2 H2 y => h F2 H2 (x.trans y)
  | bad => exact h
end

section
variable (X : Cx) (cl : Nat → Value) (W : WX)
def PP (e : Expr) (A : CE) : Prop := PE X e (tp X.K cl W A)
def PPT (e : Expr) (A : CT) : Prop := PT X e (tt X.K cl W A)
def PPW (e : Expr) (A : CT) : Prop := PW X e (tt X.K cl W A)
def PPA (es : List Expr) (A : CA) : Prop := PA X es (ta X.K cl W A)
/-- an expression that makes a new list -/
def PPN (e : Expr) (A : CA) : Prop := PE X e (tn X.K cl W A)
end
theorem PE.imp {X : Cx} {e : Expr} {t t' : TE} (h : PE X e t) (i : ∀ σ H Q, t' σ H Q → t σ H Q) : PE X e t' := ⟨fun pins s σ H Q I q => h.run pins s σ H Q I (i σ H Q q)⟩
theorem PT.imp {X : Cx} {e : Expr} {t t' : TT} (h : PT X e t) (i : ∀ σ H Q, t' σ H Q → t σ H Q) : PT X e t' := ⟨fun pins s σ H Q I q => h.run pins s σ H Q I (i σ H Q q)⟩
theorem PW.imp {X : Cx} {e : Expr} {t t' : TT} (h : PW X e t) (i : ∀ σ H Q, t' σ H Q → t σ H Q) : PW X e t' := ⟨fun wh pins s σ H Q I q => h.run wh pins s σ H Q I (i σ H Q q)⟩
theorem PA.imp {X : Cx} {es : List Expr} {t t' : TA} (h : PA X es t) (i : ∀ σ H Q, t' σ H Q → t σ H Q) : PA X es t' := ⟨fun pos pins s σ H Q I q => h.run pos pins s σ H Q I (i σ H Q q)⟩

/-! ### chains -/
section
variable {K : PySem.W.Frag} {cl : Nat → Value} {W : WX} {F H : Hp} {σ : St} {e : En}
theorem go1E {A : CE} {R : VK} {Q : VK} {f : D → Res D} (st : Stt K F e σ H) (h : PostE K cl W F H σ Q ((A e).bind f))
    (k : ∀ d F' H' v, Ext F H F' H' → Stt K F' e σ H' → RdT K F' H' d v → PostE K cl W F' H' σ Q (f d) → R v H') : tp K cl W A σ H R := by
  refine ⟨F, e, st, ?_⟩
  cases q : A e with
  | ok d => rw [q] at h; exact fun F' H' v x r => k d F' H' v x (st.ext x) r (PostE.ext (r := f d) h x)
  | exc c => rw [q] at h; exact h
  | bad => rw [q] at h; exact h
theorem go1T {A : CE} {R : VK} {Q : Bool → Hp → Prop} {f : D → Res Bool} (st : Stt K F e σ H) (h : PostT cl W F H σ Q ((A e).bind f))
    (k : ∀ d F' H' v, Ext F H F' H' → Stt K F' e σ H' → RdT K F' H' d v → PostT cl W F' H' σ Q (f d) → R v H') : tp K cl W A σ H R := by
  refine ⟨F, e, st, ?_⟩
  cases q : A e with
  | ok d => rw [q] at h; exact fun F' H' v x r => k d F' H' v x (st.ext x) r (PostT.ext (r := f d) h x)
  | exc c => rw [q] at h; exact h
  | bad => rw [q] at h; exact h
theorem go1A {A : CE} {R : VK} {Q : List V → Hp → Prop} {f : D → Res (List D)} (st : Stt K F e σ H) (h : PostA K cl W F H σ Q ((A e).bind f))
    (k : ∀ d F' H' v, Ext F H F' H' → Stt K F' e σ H' → RdT K F' H' d v → PostA K cl W F' H' σ Q (f d) → R v H') : tp K cl W A σ H R := by
  refine ⟨F, e, st, ?_⟩
  cases q : A e with
  | ok d => rw [q] at h; exact fun F' H' v x r => k d F' H' v x (st.ext x) r (PostA.ext (r := f d) h x)
  | exc c => rw [q] at h; exact h
  | bad => rw [q] at h; exact h
theorem go1N {A : CE} {R : VK} {Q : VK} {f : D → Res (List D)} (st : Stt K F e σ H) (h : PostN K cl W F H σ Q ((A e).bind f))
    (k : ∀ d F' H' v, Ext F H F' H' → Stt K F' e σ H' → RdT K F' H' d v → PostN K cl W F' H' σ Q (f d) → R v H') : tp K cl W A σ H R := by
  refine ⟨F, e, st, ?_⟩
  cases q : A e with
  | ok d => rw [q] at h; exact fun F' H' v x r => k d F' H' v x (st.ext x) r (PostN.ext (r := f d) h x)
  | exc c => rw [q] at h; exact h
  | bad => rw [q] at h; exact h
theorem goTE {A : CT} {R : Bool → Hp → Prop} {Q : VK} {f : Bool → Res D} (st : Stt K F e σ H) (h : PostE K cl W F H σ Q ((A e).bind f))
    (k : ∀ d F' H', Ext F H F' H' → Stt K F' e σ H' → PostE K cl W F' H' σ Q (f d) → R d H') : tt K cl W A σ H R := by
  refine ⟨F, e, st, ?_⟩
  cases q : A e with
  | ok d => rw [q] at h; exact fun F' H' x => k d F' H'  x (st.ext x) (PostE.ext (r := f d) h x)
  | exc c => rw [q] at h; exact h
  | bad => rw [q] at h; exact h
theorem goTT {A : CT} {R : Bool → Hp → Prop} {Q : Bool → Hp → Prop} {f : Bool → Res Bool} (st : Stt K F e σ H) (h : PostT cl W F H σ Q ((A e).bind f))
    (k : ∀ d F' H', Ext F H F' H' → Stt K F' e σ H' → PostT cl W F' H' σ Q (f d) → R d H') : tt K cl W A σ H R := by
  refine ⟨F, e, st, ?_⟩
  cases q : A e with
  | ok d => rw [q] at h; exact fun F' H' x => k d F' H'  x (st.ext x) (PostT.ext (r := f d) h x)
  | exc c => rw [q] at h; exact h
  | bad => rw [q] at h; exact h
theorem goTA {A : CT} {R : Bool → Hp → Prop} {Q : List V → Hp → Prop} {f : Bool → Res (List D)} (st : Stt K F e σ H) (h : PostA K cl W F H σ Q ((A e).bind f))
    (k : ∀ d F' H', Ext F H F' H' → Stt K F' e σ H' → PostA K cl W F' H' σ Q (f d) → R d H') : tt K cl W A σ H R := by
  refine ⟨F, e, st, ?_⟩
  cases q : A e with
  | ok d => rw [q] at h; exact fun F' H' x => k d F' H'  x (st.ext x) (PostA.ext (r := f d) h x)
  | exc c => rw [q] at h; exact h
  | bad => rw [q] at h; exact h
theorem goTN {A : CT} {R : Bool → Hp → Prop} {Q : VK} {f : Bool → Res (List D)} (st : Stt K F e σ H) (h : PostN K cl W F H σ Q ((A e).bind f))
    (k : ∀ d F' H', Ext F H F' H' → Stt K F' e σ H' → PostN K cl W F' H' σ Q (f d) → R d H') : tt K cl W A σ H R := by
  refine ⟨F, e, st, ?_⟩
  cases q : A e with
  | ok d => rw [q] at h; exact fun F' H' x => k d F' H'  x (st.ext x) (PostN.ext (r := f d) h x)
  | exc c => rw [q] at h; exact h
  | bad => rw [q] at h; exact h
theorem goAE {A : CA} {R : List V → Hp → Prop} {Q : VK} {f : List D → Res D} (st : Stt K F e σ H) (h : PostE K cl W F H σ Q ((A e).bind f))
    (k : ∀ d F' H' vs, Ext F H F' H' → Stt K F' e σ H' → RdL K F' d vs → PostE K cl W F' H' σ Q (f d) → R vs H') : ta K cl W A σ H R := by
  refine ⟨F, e, st, ?_⟩
  cases q : A e with
  | ok d => rw [q] at h; exact fun F' H' vs x r => k d F' H' vs x (st.ext x) r (PostE.ext (r := f d) h x)
  | exc c => rw [q] at h; exact h
  | bad => rw [q] at h; exact h
theorem goAT {A : CA} {R : List V → Hp → Prop} {Q : Bool → Hp → Prop} {f : List D → Res Bool} (st : Stt K F e σ H) (h : PostT cl W F H σ Q ((A e).bind f))
    (k : ∀ d F' H' vs, Ext F H F' H' → Stt K F' e σ H' → RdL K F' d vs → PostT cl W F' H' σ Q (f d) → R vs H') : ta K cl W A σ H R := by
  refine ⟨F, e, st, ?_⟩
  cases q : A e with
  | ok d => rw [q] at h; exact fun F' H' vs x r => k d F' H' vs x (st.ext x) r (PostT.ext (r := f d) h x)
  | exc c => rw [q] at h; exact h
  | bad => rw [q] at h; exact h
theorem goAA {A : CA} {R : List V → Hp → Prop} {Q : List V → Hp → Prop} {f : List D → Res (List D)} (st : Stt K F e σ H) (h : PostA K cl W F H σ Q ((A e).bind f))
    (k : ∀ d F' H' vs, Ext F H F' H' → Stt K F' e σ H' → RdL K F' d vs → PostA K cl W F' H' σ Q (f d) → R vs H') : ta K cl W A σ H R := by
  refine ⟨F, e, st, ?_⟩
  cases q : A e with
  | ok d => rw [q] at h; exact fun F' H' vs x r => k d F' H' vs x (st.ext x) r (PostA.ext (r := f d) h x)
  | exc c => rw [q] at h; exact h
  | bad => rw [q] at h; exact h
theorem goAN {A : CA} {R : List V → Hp → Prop} {Q : VK} {f : List D → Res (List D)} (st : Stt K F e σ H) (h : PostN K cl W F H σ Q ((A e).bind f))
    (k : ∀ d F' H' vs, Ext F H F' H' → Stt K F' e σ H' → RdL K F' d vs → PostN K cl W F' H' σ Q (f d) → R vs H') : ta K cl W A σ H R := by
  refine ⟨F, e, st, ?_⟩
  cases q : A e with
  | ok d => rw [q] at h; exact fun F' H' vs x r => k d F' H' vs x (st.ext x) r (PostN.ext (r := f d) h x)
  | exc c => rw [q] at h; exact h
  | bad => rw [q] at h; exact h
theorem PostE.at {Q : VK} {d : D} (h : PostE K cl W F H σ Q (.ok d)) (s : Same F H) {v : V} (r : RdT K F H d v) : Q v H := h F H v (Ext.refl s) r
theorem PostT.at {Q : Bool → Hp → Prop} {b : Bool} (h : PostT cl W F H σ Q (.ok b)) (s : Same F H) : Q b H := h F H (Ext.refl s)
theorem PostA.at {Q : List V → Hp → Prop} {l : List D} (h : PostA K cl W F H σ Q (.ok l)) (s : Same F H) {vs : List V} (r : RdL K F l vs) : Q vs H := h F H vs (Ext.refl s) r
end
end M
namespace M
open PySem PySem.Spec PyProof.Rows L2

/-! ### closures -/
def cV (i : Nat) : CE := fun e => match e[i]? with
  | some (.dat d) => .ok d
  | some (.own l) => .ok (.bor l)
  | _ => .bad
def cC (d : D) : CE := fun _ => .ok d
def ofO {α : Type} : Option α → Res α
  | some a => .ok a
  | none => .bad
def c1 (f : D → Option D) (A : CE) : CE := fun e => (A e).bind fun x => ofO (f x)
def c2 (f : D → D → Option D) (A B : CE) : CE := fun e => (A e).bind fun x => (B e).bind fun y => ofO (f x y)
def asB : D → Option Bool
  | .bl b => some b
  | _ => none
/-- a value as a test -/
def tV (A : CE) : CT := fun e => (A e).bind fun x => ofO (asB x)
def tNot (A : CT) : CT := fun e => (A e).bind fun b => .ok (!b)
def tAnd (A B : CT) : CT := fun e => (A e).bind fun b => match b with | true => B e | false => .ok false
def tOr (A B : CT) : CT := fun e => (A e).bind fun b => match b with | true => .ok true | false => B e
def cAnd (A B : CE) : CE := fun e => (A e).bind fun x => (ofO (asB x)).bind fun b => match b with | true => B e | false => .ok (.bl false)
def cOr (A B : CE) : CE := fun e => (A e).bind fun x => (ofO (asB x)).bind fun b => match b with | true => .ok (.bl true) | false => B e
def cNot (A : CE) : CE := fun e => (A e).bind fun x => (ofO (asB x)).bind fun b => .ok (.bl (!b))
def cIf (T : CT) (A B : CE) : CE := fun e => (T e).bind fun b => match b with | true => A e | false => B e
def aN : CA := fun _ => .ok []
def aC (A : CE) (B : CA) : CA := fun e => (A e).bind fun x => (B e).bind fun l => match x.solid with | true => .ok (x :: l) | false => .bad
/-- arguments that may be borrowed: one value -/
def cTup (A : CA) : CE := fun e => (A e).bind fun l => match Nat.ble l.length 1000000 with | true => .ok (.tup l) | false => .bad
def nLst (A : CA) : CA := fun e => (A e).bind fun l => match Nat.ble l.length 1000000 with | true => .ok l | false => .bad
/-- a new list as data -/
def cN (A : CA) : CE := fun e => (A e).bind fun l => .ok (.lst l)

theorem line_ok {n : Nat} (h : Nat.ble n 1000000 = true) : n ≤ sizeLine := by
  have h1 := Nat.le_of_ble_eq_true h
  rw [sizeLine_eq]; omega

section
variable {X : Cx} {cl : Nat → Value} {W : WX}

theorem pp_var {i : Nat} {x : Str} {pos : Pos} (h : PE X (.Name x pos) (tVar i)) : PP X cl W (.Name x pos) (cV i) := by
  refine PE.imp h fun σ H Q ⟨F, e, st, h⟩ => ?_
  unfold cV at h
  cases q : e[i]? with
  | none => rw [q] at h; exact h.elim
  | some s =>
    rw [q] at h
    have a := st.at_ i s q
    cases s with
    | no => exact h.elim
    | dat d =>
      obtain ⟨v, h1, h2⟩ := a
      exact ⟨v, h1, PostE.at h st.sub (.of h2)⟩
    | own l =>
      obtain ⟨a, vs, h1, h2, h3, h4⟩ := a
      exact ⟨_, h1, PostE.at h st.sub ⟨a, vs, rfl, h2, h4⟩⟩
theorem pp_pv (i : Nat) {x : Str} {pos : Pos} (hN : X.N[i]? = some x := by rfl) (hv : Vis X.env.scope x := by first | exact Or.inl rfl | exact Or.inr (Or.inl rfl) | exact Or.inr (Or.inr rfl)) (hd : (x == ("__debug__" : Str)) = false := by decide)
    (hcd : (x == ("__classdict__" : Str)) = false := by decide) : PP X cl W (.Name x pos) (cV i) := pp_var (pe_var hN hv hd hcd)
theorem pp_c {e : Expr} {v : V} {d : D} (h : PE X e (tC v)) (r : ∀ F, Rd X.K F d v) : PP X cl W e (cC d) :=
  PE.imp h fun σ H Q ⟨F, e, st, h⟩ => PostE.at h st.sub (.of (r F))
theorem pp_int {i : Int} {j pos} : PP X cl W (.Constant (.int i) j pos) (cC (.int i)) := pp_c pe_int fun _ => .int i
theorem pp_bl {b : Bool} {j pos} : PP X cl W (.Constant (.bool b) j pos) (cC (.bl b)) := pp_c pe_bl fun _ => .bl b
theorem pp_non {j pos} : PP X cl W (.Constant .none j pos) (cC .non) := pp_c pe_non fun _ => .non
theorem pp_str {x : Str} {j pos} (h : PySem.PyData.strOk x = true := by decide +kernel) : PP X cl W (.Constant (.str x) j pos) (cC (.str x)) := pp_c pe_str fun _ => .str x h
theorem pp_glob {x : Str} {v : V} {u : Value} {d : D} {pos : Pos} (hg : Gl X x) (hm : X.mg x = some u) (r : RelV v u) (rd : ∀ F, Rd X.K F d v) (hd : (x == ("__debug__" : Str)) = false := by decide) : PP X cl W (.Name x pos) (cC d) := pp_c (pe_glob hg hm r hd) rd

/-! ### operators -/
def rP (K : PySem.W.Frag) (f : D → D → Option D) : R2 := fun x y H Q => ∃ F a b d, Same F H ∧ RdT K F H a x ∧ RdT K F H b y ∧ f a b = some d ∧ ∀ F' H' v, Ext F H F' H' → RdT K F' H' d v → Q v H'
def rU1 (K : PySem.W.Frag) (f : D → Option D) : V → Hp → VK → Prop := fun x H Q => ∃ F a d, Same F H ∧ RdT K F H a x ∧ f a = some d ∧ ∀ F' H' v, Ext F H F' H' → RdT K F' H' d v → Q v H'
theorem go2 {A B : CE} {f : D → D → Option D} {σ : St} {H : Hp} {Q : VK} (h : tp X.K cl W (c2 f A B) σ H Q) : tOp (rP X.K f) (tp X.K cl W A) (tp X.K cl W B) σ H Q := by
  obtain ⟨F, e, st, h⟩ := h
  refine go1E st h fun a F1 H1 v x1 st1 r1 h1 => go1E st1 h1 fun b F2 H2 u x2 st2 r2 h2 => ?_
  cases q : f a b with
  | none => rw [q] at h2; exact h2.elim
  | some d => rw [q] at h2; exact ⟨F2, a, b, d, st2.sub, r1.same x2.f x2.h, r2, q, h2⟩
theorem goU {A : CE} {f : D → Option D} {σ : St} {H : Hp} {Q : VK} (h : tp X.K cl W (c1 f A) σ H Q) : tUn (rU1 X.K f) (tp X.K cl W A) σ H Q := by
  obtain ⟨F, e, st, h⟩ := h
  refine go1E st h fun a F1 H1 v x1 st1 r1 h1 => ?_
  cases q : f a with
  | none => rw [q] at h1; exact h1.elim
  | some d => rw [q] at h1; exact ⟨F1, a, d, st1.sub, r1, q, h1⟩
theorem pp_op {op : Operator} {a b : Expr} {A B : CE} {f : D → D → Option D} {pos : Pos} (ho : OpR X (binaryOp op) (rP X.K f)) (ha : PP X cl W a A) (hb : PP X cl W b B) : PP X cl W (.BinOp a op b pos) (c2 f A B) := PE.imp (pe_op ho ha hb) fun _ _ _ => go2
theorem pp_un {op : UnaryOp} {a : Expr} {A : CE} {f : D → Option D} {pos : Pos} (ho : UnR X (unaryOp op) (rU1 X.K f)) (ha : PP X cl W a A) : PP X cl W (.UnaryOp op a pos) (c1 f A) := PE.imp (pe_un ho ha) fun _ _ _ => goU
theorem pp_cmp {op : CmpOp} {a b : Expr} {A B : CE} {f : D → D → Option D} {pos : Pos} (ho : OpR X (compareOp op) (rP X.K f)) (ha : PP X cl W a A) (hb : PP X cl W b B) (hm : behindInMarks op b = false) : PP X cl W (.Compare a [op] [b] pos) (c2 f A B) := PE.imp (pe_cmpR ho ha hb hm) fun _ _ _ => go2
theorem go_test {A : CE} {t : TE} (i : ∀ σ H Q, tp X.K cl W A σ H Q → t σ H Q) {σ : St} {H : Hp} {Q : Bool → Hp → Prop} (h : tt X.K cl W (tV A) σ H Q) : tTest t σ H Q := by
  obtain ⟨F, e, st, h⟩ := h
  refine i _ _ _ (go1T st h fun d F1 H1 v x1 st1 r1 h1 => ?_)
  cases d with
  | bl b => cases r1; exact ⟨b, rfl, PostT.at h1 st1.sub⟩
  | _ => exact h1.elim
theorem ppt_cmp {op : CmpOp} {a b : Expr} {A B : CE} {f : D → D → Option D} {pos : Pos} (ho : OpR X (compareOp op) (rP X.K f)) (ha : PP X cl W a A) (hb : PP X cl W b B) (hm : behindInMarks op b = false) : PPT X cl W (.Compare a [op] [b] pos) (tV (c2 f A B)) :=
  PT.imp (pt_cmpR ho ha hb hm) fun _ _ _ => go_test fun _ _ _ => go2
theorem ppt_val {a : Expr} {A : CE} (ha : PP X cl W a A) (he : ∀ whole, isTrue a X.env whole = (do let v ← whole; standAt a.pos; holding [v] (truthy v)) := by intro _; rfl) : PPT X cl W a (tV A) :=
  PT.imp (pt_val ha he) fun _ _ _ h => go_test (fun _ _ _ h => h) h

/-! ### is None -/
def isNonD : D → Option D
  | .non => some (.bl true)
  | _ => some (.bl false)
def notNonD : D → Option D
  | .non => some (.bl false)
  | _ => some (.bl true)
theorem rd_non {K : PySem.W.Frag} {F H : Hp} {d : D} {v : V} (r : RdT K F H d v) : isNonD d = some (.bl (decide (v = .non))) ∧ notNonD d = some (.bl (!decide (v = .non))) := by
  cases d with
  | non => cases r; exact ⟨rfl, rfl⟩
  | bor l => obtain ⟨a, vs, rfl, _⟩ := r; exact ⟨rfl, rfl⟩
  | _ => cases r <;> exact ⟨rfl, rfl⟩
theorem go_isN {A : CE} {σ : St} {H : Hp} {Q : VK} (h : tp X.K cl W (c1 isNonD A) σ H Q) : tIsN (tp X.K cl W A) σ H Q := by
  obtain ⟨F, e, st, h⟩ := h
  refine go1E st h fun a F1 H1 v x1 st1 r1 h1 => ?_
  rw [(rd_non r1).1] at h1
  exact PostE.at (d := .bl _) h1 st1.sub (.bl _)
theorem go_notN {A : CE} {σ : St} {H : Hp} {Q : VK} (h : tp X.K cl W (c1 notNonD A) σ H Q) : tNotN (tp X.K cl W A) σ H Q := by
  obtain ⟨F, e, st, h⟩ := h
  refine go1E st h fun a F1 H1 v x1 st1 r1 h1 => ?_
  rw [(rd_non r1).2] at h1
  exact PostE.at (d := .bl _) h1 st1.sub (.bl _)
theorem pp_isN {a : Expr} {A : CE} {j pos pos'} (ha : PP X cl W a A) : PP X cl W (.Compare a [.Is] [.Constant .none j pos'] pos) (c1 isNonD A) := PE.imp (pe_cmp (pc_isN ha)) fun _ _ _ => go_isN
theorem pp_notN {a : Expr} {A : CE} {j pos pos'} (ha : PP X cl W a A) : PP X cl W (.Compare a [.IsNot] [.Constant .none j pos'] pos) (c1 notNonD A) := PE.imp (pe_cmp (pc_notN ha)) fun _ _ _ => go_notN
theorem ppt_isN {a : Expr} {A : CE} {j pos pos'} (ha : PP X cl W a A) : PPT X cl W (.Compare a [.Is] [.Constant .none j pos'] pos) (tV (c1 isNonD A)) := PT.imp (pt_cmp (pc_isN ha)) fun _ _ _ => go_test fun _ _ _ => go_isN
theorem ppt_notN {a : Expr} {A : CE} {j pos pos'} (ha : PP X cl W a A) : PPT X cl W (.Compare a [.IsNot] [.Constant .none j pos'] pos) (tV (c1 notNonD A)) := PT.imp (pt_cmp (pc_notN ha)) fun _ _ _ => go_test fun _ _ _ => go_notN

/-! ### and, or, not, if -/
variable {a b c : Expr} {rest : List Expr} {pos : Pos} {A B : CE} {S T : CT}
theorem ppt_not (ha : PPT X cl W a T) : PPT X cl W (.UnaryOp .Not a pos) (tNot T) := PT.imp (pt_not ha) fun _ _ _ ⟨F, e, st, h⟩ => goTT st h fun b F1 H1 x1 st1 h1 => PostT.at h1 st1.sub
theorem ppw_and1 (ha : PPT X cl W a T) : PPW X cl W (.BoolOp .And [a] pos) T := pw_and1 ha
theorem ppw_or1 (ha : PPT X cl W a T) : PPW X cl W (.BoolOp .Or [a] pos) T := pw_or1 ha
theorem ppw_and (ha : PPT X cl W a S) (hb : PPW X cl W (.BoolOp .And (b :: rest) pos) T) : PPW X cl W (.BoolOp .And (a :: b :: rest) pos) (tAnd S T) := PW.imp (pw_and ha hb) fun _ _ _ ⟨F, e, st, h⟩ => goTT st h fun b F1 H1 x1 st1 h1 => by
  cases b with
  | true => exact iteT ⟨F1, e, st1, h1⟩
  | false => exact iteF (PostT.at h1 st1.sub)
theorem ppw_or (ha : PPT X cl W a S) (hb : PPW X cl W (.BoolOp .Or (b :: rest) pos) T) : PPW X cl W (.BoolOp .Or (a :: b :: rest) pos) (tOr S T) := PW.imp (pw_or ha hb) fun _ _ _ ⟨F, e, st, h⟩ => goTT st h fun b F1 H1 x1 st1 h1 => by
  cases b with
  | true => exact iteT (PostT.at h1 st1.sub)
  | false => exact iteF ⟨F1, e, st1, h1⟩
theorem PPW.pt {a : Expr} (h : PPW X cl W a T) : PPT X cl W a T := PW.pt h
theorem pp_one {op} (ha : PP X cl W a A) : PP X cl W (.BoolOp op [a] pos) A := pe_one ha
theorem pp_and (ha : PP X cl W a A) (hb : PP X cl W (.BoolOp .And (b :: rest) pos) B) : PP X cl W (.BoolOp .And (a :: b :: rest) pos) (cAnd A B) := PE.imp (pe_and ha hb) fun _ _ _ ⟨F, e, st, h⟩ => go1E st h fun d F1 H1 v x1 st1 r1 h1 => by
  cases d with
  | bl k =>
    cases r1
    refine ⟨k, rfl, ?_⟩
    cases k with
    | true => exact iteT ⟨F1, e, st1, h1⟩
    | false => exact iteF (PostE.at h1 st1.sub (.bl _))
  | _ => exact h1.elim
theorem pp_or (ha : PP X cl W a A) (hb : PP X cl W (.BoolOp .Or (b :: rest) pos) B) : PP X cl W (.BoolOp .Or (a :: b :: rest) pos) (cOr A B) := PE.imp (pe_or ha hb) fun _ _ _ ⟨F, e, st, h⟩ => go1E st h fun d F1 H1 v x1 st1 r1 h1 => by
  cases d with
  | bl k =>
    cases r1
    refine ⟨k, rfl, ?_⟩
    cases k with
    | true => exact iteT (PostE.at h1 st1.sub (.bl _))
    | false => exact iteF ⟨F1, e, st1, h1⟩
  | _ => exact h1.elim
theorem pp_not (ha : PP X cl W a A) : PP X cl W (.UnaryOp .Not a pos) (cNot A) := PE.imp (pe_not ha) fun _ _ _ ⟨F, e, st, h⟩ => go1E st h fun d F1 H1 v x1 st1 r1 h1 => by
  cases d with
  | bl k =>
    cases r1
    exact ⟨k, rfl, PostE.at h1 st1.sub (.bl _)⟩
  | _ => exact h1.elim
theorem pp_if {c : Expr} (hc : PPT X cl W c T) (ha : PP X cl W a A) (hb : PP X cl W b B) : PP X cl W (.IfExp c a b pos) (cIf T A B) := PE.imp (pe_ifExp hc ha hb) fun _ _ _ ⟨F, e, st, h⟩ => goTE st h fun b F1 H1 x1 st1 h1 => by
  cases b with
  | true => exact iteT ⟨F1, e, st1, h1⟩
  | false => exact iteF ⟨F1, e, st1, h1⟩

/-! ### displays, arguments -/
variable {es : List Expr} {L : CA}
theorem ppa_nil : PPA X cl W [] aN := PA.imp pa_nil fun _ _ _ ⟨F, e, st, h⟩ => PostA.at h st.sub .nil
theorem ppa_cons (ha : PP X cl W a A) (hr : PPA X cl W es L) (hs : starEach (a :: es) X.env = (false, eval a X.env) :: starEach es X.env := by rfl) : PPA X cl W (a :: es) (aC A L) := PA.imp (pa_cons ha hr hs) fun _ _ _ ⟨F, e, st, h⟩ => go1A st h fun d F1 H1 v x1 st1 r1 h1 => goAA st1 h1 fun l F2 H2 vs x2 st2 r2 h2 => by
  cases q : d.solid with
  | false => rw [q] at h2; exact h2.elim
  | true =>
    rw [q] at h2
    exact PostA.at h2 st2.sub (.cons ((r1.rd q).same x2.f) r2)
theorem pp_tup {x1} (h : PPA X cl W es L) : PP X cl W (.Tuple es x1 pos) (cTup L) := PE.imp (pe_tup h) fun _ _ _ ⟨F, e, st, h⟩ => goAE st h fun l F1 H1 vs x1 st1 r1 h1 => by
  cases q : Nat.ble l.length 1000000 with
  | false => rw [q] at h1; exact h1.elim
  | true =>
    rw [q] at h1
    refine ⟨by rw [← r1.length]; exact line_ok q, fun p np => ?_⟩
    have y := Ext.put st1.sub np (.tup vs)
    exact h1 _ _ _ y (.of (.tup (.of upd_same) (r1.same y.f)))
theorem ppn_lst (h : PPA X cl W es L) : PPN X cl W (.List es pos) (nLst L) := PE.imp (pe_lst h) fun _ _ _ ⟨F, e, st, h⟩ => goAN st h fun l F1 H1 vs x1 st1 r1 h1 => by
  cases q : Nat.ble l.length 1000000 with
  | false => rw [q] at h1; exact h1.elim
  | true =>
    rw [q] at h1
    have z : vs.length ≤ sizeLine := by rw [← r1.length]; exact line_ok q
    exact ⟨z, fun p np => h1 F1 H1 p vs (Ext.refl st1.sub) np r1 z⟩
/-- a new list as data -/
theorem PPN.pp (h : PPN X cl W a L) : PP X cl W a (cN L) := PE.imp h fun _ H Q ⟨F, e, st, h⟩ => by
  refine ⟨F, e, st, ?_⟩
  unfold cN at h
  cases q : L e with
  | ok l =>
    rw [q] at h
    intro F' H' p vs x np r z
    have y := Ext.put x.sub np (.lst vs)
    exact h _ _ _ (x.trans y) (.of (.lst upd_same (r.same y.f)))
  | exc c => rw [q] at h; exact h
  | bad => rw [q] at h; exact h
end
end M
namespace M
open PySem PySem.Spec PyProof.Rows L2

/-! ### data as the library's -/
mutual
def toPy : D → PyData
  | .non => .none
  | .bl b => .bool b
  | .int i => .int i
  | .str x => .str x
  | .tup l => .tuple (toPyL l)
  | .lst l => .list (toPyL l)
  | .bor l => .list (toPyL l)
def toPyL : List D → List PyData
  | [] => []
  | d :: l => toPy d :: toPyL l
end
mutual
theorem Rd.dp {K : PySem.W.Frag} {F : Hp} : ∀ {d : D} {v : V}, Rd K F d v → Dp K F v (toPy d) ∧ (toPy d).canLay0 = true
  | _, _, .non => ⟨.non, rfl⟩
  | _, _, .bl b => ⟨.bl b, rfl⟩
  | _, _, .int i => ⟨.int i, rfl⟩
  | _, _, .str x h => ⟨.str x, by simpa [toPy, PyData.canLay0] using h⟩
  | _, _, .tup s h => ⟨.tup s (RdL.dp h).1, by simpa [toPy, PyData.canLay0] using (RdL.dp h).2⟩
  | _, _, .lst s h => ⟨.lst (.inl (.inl s)) (RdL.dp h).1, by simpa [toPy, PyData.canLay0] using (RdL.dp h).2⟩
theorem RdL.dp {K : PySem.W.Frag} {F : Hp} : ∀ {l : List D} {vs : List V}, RdL K F l vs → DpAll K F vs (toPyL l) ∧ PyData.canLayAll0 (toPyL l) = true
  | _, _, .nil => ⟨.nil, rfl⟩
  | _, _, .cons r h => ⟨.cons (Rd.dp r).1 (RdL.dp h).1, by simp [toPyL, PyData.canLayAll0, (Rd.dp r).2, (RdL.dp h).2]⟩
end
mutual
theorem dp_same {K : PySem.W.Frag} {F H : Hp} (e : Same F H) : ∀ {v : V} {d : PyData}, Dp K F v d → Dp K H v d
  | _, _, .non => .non
  | _, _, .bl b => .bl b
  | _, _, .int i => .int i
  | _, _, .str x => .str x
  | _, _, .lst s h => .lst (e.seq s) (dpAll_same e h)
  | _, _, .tup s h => .tup (SqT.same e s) (dpAll_same e h)
theorem dpAll_same {K : PySem.W.Frag} {F H : Hp} (e : Same F H) : ∀ {vs : List V} {ds : List PyData}, DpAll K F vs ds → DpAll K H vs ds
  | _, _, .nil => .nil
  | _, _, .cons r h => .cons (dp_same e r) (dpAll_same e h)
end
theorem RdT.dp {K : PySem.W.Frag} {F H : Hp} (s : Same F H) {d : D} {v : V} (r : RdT K F H d v) : Dp K H v (toPy d) ∧ (toPy d).canLay0 = true := by
  cases d with
  | bor l =>
    obtain ⟨a, vs, rfl, h1, h2⟩ := r
    exact ⟨.lst (.inl (.inl h1)) (dpAll_same s h2.dp.1), by simpa [toPy, PyData.canLay0] using h2.dp.2⟩
  | _ => exact ⟨dp_same s (Rd.dp r).1, (Rd.dp r).2⟩

/-! ### equality -/
mutual
def eqB : D → D → Bool
  | .int i, y => (match y with | .int j => PySem.W.Z.eqB i j | .bl b => PySem.W.Z.eqB i (if b then 1 else 0) | _ => false)
  | .tup l, y => (match y with | .tup k => eqBL l k | _ => false)
  | .lst l, y => (match y with | .lst k => eqBL l k | .bor k => eqBL l k | _ => false)
  | .bor l, y => (match y with | .lst k => eqBL l k | .bor k => eqBL l k | _ => false)
  | .non, y => (match y with | .non => true | _ => false)
  | .bl b, y => (match y with | .bl c => b == c | .int j => PySem.W.Z.eqB (if b then 1 else 0) j | _ => false)
  | .str x, y => (match y with | .str z => x == z | _ => false)
def eqBL : List D → List D → Bool
  | [], k => (match k with | [] => true | _ :: _ => false)
  | x :: l, k => (match k with | [] => false | y :: r => (match eqB x y with | true => eqBL l r | false => false))
end
theorem zeq (i j : Int) : PySem.W.Z.eqB i j = (i == j) := by
  rw [Bool.eq_iff_iff, PySem.W.Z.eqB_iff]; simp
mutual
theorem eqB_py : ∀ d e : D, eqB d e = PyData.eqv (toPy d) (toPy e)
  | .int i, e => by cases e <;> simp [eqB, toPy, PyData.eqv, zeq]
  | .tup l, e => by cases e <;> simp [eqB, toPy, PyData.eqv, eqBL_py l]
  | .lst l, e => by cases e <;> simp [eqB, toPy, PyData.eqv, eqBL_py l]
  | .bor l, e => by cases e <;> simp [eqB, toPy, PyData.eqv, eqBL_py l]
  | .non, e => by cases e <;> simp [eqB, toPy, PyData.eqv]
  | .bl b, e => by cases e <;> simp [eqB, toPy, PyData.eqv, zeq]
  | .str x, e => by cases e <;> simp [eqB, toPy, PyData.eqv]
theorem eqBL_py : ∀ l k : List D, eqBL l k = PyData.eqvAll (toPyL l) (toPyL k)
  | [], k => by cases k <;> simp [eqBL, toPyL, PyData.eqvAll]
  | x :: l, k => by
    cases k with
    | nil => simp [eqBL, toPyL, PyData.eqvAll]
    | cons y r =>
      simp only [eqBL, toPyL, PyData.eqvAll, ← eqB_py x y, ← eqBL_py l r]
      cases eqB x y <;> rfl
end
/-! no deeper than n -/
mutual
def lowD : D → Nat → Bool
  | .tup l, n => (match n with | 0 => false | n + 1 => lowL l n)
  | .lst l, n => (match n with | 0 => false | n + 1 => lowL l n)
  | .bor l, n => (match n with | 0 => false | n + 1 => lowL l n)
  | .non, _ => true
  | .bl _, _ => true
  | .int _, _ => true
  | .str _, _ => true
def lowL : List D → Nat → Bool
  | [], _ => true
  | x :: l, n => (match lowD x n with | true => lowL l n | false => false)
end
mutual
theorem low_py : ∀ (d : D) (n : Nat), lowD d n = true → (toPy d).depth ≤ n
  | .tup l, n, h => by
    cases n with
    | zero => simp [lowD] at h
    | succ n => simp only [lowD] at h; have := lowL_py l n h; simp [toPy, PyData.depth]; omega
  | .lst l, n, h => by
    cases n with
    | zero => simp [lowD] at h
    | succ n => simp only [lowD] at h; have := lowL_py l n h; simp [toPy, PyData.depth]; omega
  | .bor l, n, h => by
    cases n with
    | zero => simp [lowD] at h
    | succ n => simp only [lowD] at h; have := lowL_py l n h; simp [toPy, PyData.depth]; omega
  | .non, n, _ => by simp [toPy, PyData.depth]
  | .bl _, n, _ => by simp [toPy, PyData.depth]
  | .int _, n, _ => by simp [toPy, PyData.depth]
  | .str _, n, _ => by simp [toPy, PyData.depth]
theorem lowL_py : ∀ (l : List D) (n : Nat), lowL l n = true → PyData.depthAll (toPyL l) ≤ n
  | [], n, _ => by simp [toPyL, PyData.depthAll]
  | x :: l, n, h => by
    simp only [lowL] at h
    cases q : lowD x n with
    | false => rw [q] at h; cases h
    | true =>
      rw [q] at h
      have h1 := low_py x n q
      have h2 := lowL_py l n h
      simp [toPyL, PyData.depthAll]; omega
end
/-- == : the right side not deep -/
def eqD (d e : D) : Option D := match lowD e 40 with
  | true => some (.bl (eqB d e))
  | false => none
def neD (d e : D) : Option D := match lowD e 40 with
  | true => some (.bl (!eqB d e))
  | false => none
def anyEq (d : D) : List D → Bool
  | [] => false
  | x :: l => match eqB x d with
    | true => true
    | false => anyEq d l
def seqOf : D → Option (List D)
  | .tup l => some l
  | .lst l => some l
  | .bor l => some l
  | _ => none
def inD (d e : D) : Option D := match lowD d 40 with
  | true => (seqOf e).map fun l => .bl (anyEq d l)
  | false => none
def notInD (d e : D) : Option D := match lowD d 40 with
  | true => (seqOf e).map fun l => .bl (!anyEq d l)
  | false => none
theorem anyEq_py (d : D) : ∀ l : List D, anyEq d l = (toPyL l).any fun z => PyData.eqv z (toPy d)
  | [] => rfl
  | x :: l => by
    simp only [anyEq, toPyL, List.any_cons, ← eqB_py x d, ← anyEq_py d l]
    cases eqB x d <;> rfl
section
variable {X : Cx}
theorem ext_same {F H : Hp} (s : Same F H) {Q : VK} {K : PySem.W.Frag} {d : D} {v : V} (h : ∀ F' H' v, Ext F H F' H' → RdT K F' H' d v → Q v H') (r : RdT K F H d v) : Q v H := h F H v (Ext.refl s) r
theorem op_eqP (hu : X.A.units + 64 < cLine) : OpR X (compareOp .Eq) (rP X.K eqD) := by
  intro pins s σ H x y v u Q I rx ry h
  obtain ⟨F, a, b, d, sm, ra, rb, e, q⟩ := h
  unfold eqD at e
  cases z : lowD b 40 with
  | false => rw [z] at e; cases e
  | true =>
    rw [z] at e
    cases e
    have d1 := ra.dp sm
    have d2 := rb.dp sm
    obtain ⟨as, r1⟩ := Dp.reads I _ x v d1.1 rx
    obtain ⟨bs, r2⟩ := Dp.reads I _ y u d2.1 ry
    have hd := low_py b 40 z
    refine SeqAt.compareEq_reads r1 r2 d1.2 d2.2 (by omega) ⟨.bl _, H, I, rfl, ?_⟩
    rw [← eqB_py]
    exact ext_same sm q (.bl _)
theorem op_neP (hu : X.A.units + 64 < cLine) : OpR X (compareOp .NotEq) (rP X.K neD) := by
  intro pins s σ H x y v u Q I rx ry h
  obtain ⟨F, a, b, d, sm, ra, rb, e, q⟩ := h
  unfold neD at e
  cases z : lowD b 40 with
  | false => rw [z] at e; cases e
  | true =>
    rw [z] at e
    cases e
    have d1 := ra.dp sm
    have d2 := rb.dp sm
    obtain ⟨as, r1⟩ := Dp.reads I _ x v d1.1 rx
    obtain ⟨bs, r2⟩ := Dp.reads I _ y u d2.1 ry
    have hd := low_py b 40 z
    refine SeqAt.compareNe_reads r1 r2 d1.2 d2.2 (by omega) ⟨.bl _, H, I, rfl, ?_⟩
    rw [← eqB_py]
    exact ext_same sm q (.bl _)
theorem op_inP (hu : X.A.units + 64 < cLine) : OpR X (compareOp .In) (rP X.K inD) := by
  intro pins s σ H x y v u Q I rx ry h
  obtain ⟨F, a, b, d, sm, ra, rb, e, q⟩ := h
  unfold inD at e
  cases z : lowD a 40 with
  | false => rw [z] at e; cases e
  | true =>
    rw [z] at e
    have d1 := ra.dp sm
    have d2 := rb.dp sm
    obtain ⟨as, r1⟩ := Dp.reads I _ x v d1.1 rx
    obtain ⟨bs, r2⟩ := Dp.reads I _ y u d2.1 ry
    have hd := low_py a 40 z
    cases b with
    | tup l => cases e; exact SeqAt.in_tuple_reads r2 r1 d2.2 d1.2 (by omega) ⟨.bl _, H, I, rfl, by rw [← anyEq_py]; exact ext_same sm q (.bl _)⟩
    | lst l => cases e; exact SeqAt.in_list_reads r2 r1 d2.2 d1.2 (by omega) ⟨.bl _, H, I, rfl, by rw [← anyEq_py]; exact ext_same sm q (.bl _)⟩
    | bor l => cases e; exact SeqAt.in_list_reads r2 r1 d2.2 d1.2 (by omega) ⟨.bl _, H, I, rfl, by rw [← anyEq_py]; exact ext_same sm q (.bl _)⟩
    | _ => cases e
theorem op_notInP (hu : X.A.units + 64 < cLine) : OpR X (compareOp .NotIn) (rP X.K notInD) := by
  intro pins s σ H x y v u Q I rx ry h
  obtain ⟨F, a, b, d, sm, ra, rb, e, q⟩ := h
  unfold notInD at e
  cases z : lowD a 40 with
  | false => rw [z] at e; cases e
  | true =>
    rw [z] at e
    have d1 := ra.dp sm
    have d2 := rb.dp sm
    obtain ⟨as, r1⟩ := Dp.reads I _ x v d1.1 rx
    obtain ⟨bs, r2⟩ := Dp.reads I _ y u d2.1 ry
    have hd := low_py a 40 z
    cases b with
    | tup l => cases e; exact SeqAt.notIn_tuple_reads r2 r1 d2.2 d1.2 (by omega) ⟨.bl _, H, I, rfl, by rw [← anyEq_py]; exact ext_same sm q (.bl _)⟩
    | lst l => cases e; exact SeqAt.notIn_list_reads r2 r1 d2.2 d1.2 (by omega) ⟨.bl _, H, I, rfl, by rw [← anyEq_py]; exact ext_same sm q (.bl _)⟩
    | bor l => cases e; exact SeqAt.notIn_list_reads r2 r1 d2.2 d1.2 (by omega) ⟨.bl _, H, I, rfl, by rw [← anyEq_py]; exact ext_same sm q (.bl _)⟩
    | _ => cases e
end
end M
namespace M
open PySem PySem.Spec PyProof.Rows L2

/-! ### arithmetic -/
def inW (i : Int) : Bool := match i with
  | .ofNat n => Nat.blt n 18446744073709551616
  | .negSucc n => Nat.blt n 18446744073709551615
def mulOk (i j : Int) : Bool := match inW i with
  | true => true
  | false => match inW j with
    | true => true
    | false => Nat.blt (i.natAbs.log2 + j.natAbs.log2) 1000000
theorem inW_ok {i : Int} (h : inW i = true) : -(2 ^ 64) < i ∧ i < 2 ^ 64 := by
  cases i with
  | ofNat n => have := PySem.W.Z.blt_iff.mp (show Nat.blt n 18446744073709551616 = true from h); simp only [Int.ofNat_eq_natCast]; constructor <;> omega
  | negSucc n => have := PySem.W.Z.blt_iff.mp (show Nat.blt n 18446744073709551615 = true from h); constructor <;> omega
theorem mulOk_ok {i j : Int} (h : mulOk i j = true) : IntMulOk i j := by
  unfold mulOk at h
  cases q : inW i with
  | true => exact CMul.ok (.inl (inW_ok q))
  | false =>
    rw [q] at h
    cases q2 : inW j with
    | true => exact CMul.ok (.inr (inW_ok q2))
    | false =>
      rw [q2] at h
      exact CMulW.ok (PySem.W.Z.blt_iff.mp h)
def lenOk (n : Nat) : Bool := Nat.ble n 1000000
def addD (x y : D) : Option D := match x with
  | .int i => (match y with | .int j => some (.int (i + j)) | _ => none)
  | .tup l => (match y with | .tup k => (match lenOk (l.length + k.length) with | true => some (.tup (l ++ k)) | false => none) | _ => none)
  | .lst l => (match y with
    | .lst k => (match lenOk (l.length + k.length) with | true => some (.lst (l ++ k)) | false => none)
    | .bor k => (match lenOk (l.length + k.length) with | true => some (.lst (l ++ k)) | false => none)
    | _ => none)
  | .bor l => (match y with
    | .lst k => (match lenOk (l.length + k.length) with | true => some (.lst (l ++ k)) | false => none)
    | .bor k => (match lenOk (l.length + k.length) with | true => some (.lst (l ++ k)) | false => none)
    | _ => none)
  | _ => none
def subD (x y : D) : Option D := match x with
  | .int i => (match y with | .int j => some (.int (i - j)) | _ => none)
  | _ => none
def repOk (n : Nat) (k : Int) : Option Nat := match k with
  | .ofNat m => (match lenOk m with | true => (match lenOk (n * m) with | true => some m | false => none) | false => none)
  | .negSucc m => (match lenOk m with | true => some 0 | false => none)
def mulD (x y : D) : Option D := match x with
  | .int i => (match y with | .int j => (match mulOk i j with | true => some (.int (i * j)) | false => none) | _ => none)
  | .lst l => (match y with | .int k => (repOk l.length k).map fun m => .lst (List.replicate m l).flatten | _ => none)
  | .bor l => (match y with | .int k => (repOk l.length k).map fun m => .lst (List.replicate m l).flatten | _ => none)
  | _ => none
def modD (x y : D) : Option D := match x with
  | .int i => (match y with | .int j => (match PySem.W.Z.eqB j 0 with | false => some (.int (i.fmod j)) | true => none) | _ => none)
  | _ => none
def divOk (j : Int) : Bool := match j with
  | .ofNat n => (match Nat.beq n 0 with | true => false | false => Nat.blt n.log2 9000)
  | .negSucc n => Nat.blt n 1073741823
def divD (x y : D) : Option D := match x with
  | .int i => (match y with | .int j => (match divOk j with | true => some (.int (i.fdiv j)) | false => none) | _ => none)
  | _ => none
def powD (x y : D) : Option D := match x with
  | .int i => (match y with
    | .int j => (match j with
      | .ofNat n => (match Nat.ble n 1000 with | true => (match inW i with | true => some (.int (i ^ n)) | false => none) | false => none)
      | .negSucc _ => none)
    | _ => none)
  | _ => none
def negD (x : D) : Option D := match x with
  | .int i => some (.int (-i))
  | _ => none

section
variable {X : Cx}
theorem op_addP : OpR X (binaryOp .Add) (rP X.K addD) := by
  intro pins s σ H x y v u Q I rx ry h
  obtain ⟨F, a, b, d, sm, ra, rb, e, q⟩ := h
  have lists : ∀ {l k : List D}, (∃ p vs, x = .ref p ∧ H p = some (.lst vs) ∧ RdL X.K F l vs) → (∃ p vs, y = .ref p ∧ H p = some (.lst vs) ∧ RdL X.K F k vs) → (match lenOk (l.length + k.length) with | true => some (D.lst (l ++ k)) | false => none) = some d →
      wpAny (model X.prog X.w) X.A (binaryOp .Add v u) (EP X pins σ Q) X.xe s := fun {l k} ⟨p, vs, e1, h1, r1⟩ ⟨p', vs', e2, h2, r2⟩ e => by
    cases z : lenOk (l.length + k.length) with
    | false => rw [z] at e; cases e
    | true =>
      rw [z] at e
      cases e
      refine op_cat pins s σ H x y v u Q I rx ry ⟨p, p', vs, vs', e1, e2, h1, h2, by rw [← r1.length, ← r2.length]; exact line_ok z, fun t nt => ?_⟩
      have w := Ext.put sm nt (.lst (vs ++ vs'))
      exact q _ _ _ w (.of (.lst upd_same ((r1.append r2).same w.f)))
  cases a with
  | int i =>
    cases b with
    | int j => cases e; cases ra; cases rb; exact op_add pins s σ H _ _ v u Q I rx ry ⟨i, j, rfl, rfl, ext_same sm q (.int _)⟩
    | _ => cases e
  | tup l =>
    cases b with
    | tup k =>
      simp only [addD] at e
      cases z : lenOk (l.length + k.length) with
      | false => rw [z] at e; cases e
      | true =>
        rw [z] at e
        cases e
        cases ra with
        | tup h1 r1 =>
          rename_i p vs
          cases rb with
          | tup h2 r2 =>
            rename_i p' vs'
            refine op_catA pins s σ H _ _ v u Q I rx ry ⟨p, p', vs, vs', rfl, rfl, SqT.same sm h1, SqT.same sm h2, by rw [← r1.length, ← r2.length]; exact line_ok z, fun n1 => ?_, fun n1 n2 => ?_, fun n1 n2 t nt => ?_⟩
            · subst n1
              cases r1
              exact ext_same sm q (.of (.tup h2 r2))
            · subst n2
              cases r2
              rw [List.append_nil] at q
              exact ext_same sm q (.of (.tup h1 r1))
            · have w := Ext.put sm nt (.tup (vs ++ vs'))
              exact q _ _ _ w (.of (.tup (.of upd_same) ((r1.append r2).same w.f)))
    | _ => cases e
  | lst l =>
    cases ra with
    | lst h1 r1 =>
      cases b with
      | lst k => cases rb with | lst h2 r2 => exact lists ⟨_, _, rfl, sm _ _ h1, r1⟩ ⟨_, _, rfl, sm _ _ h2, r2⟩ e
      | bor k => obtain ⟨p, vs, e2, h2, r2⟩ := rb; exact lists ⟨_, _, rfl, sm _ _ h1, r1⟩ ⟨p, vs, e2, h2, r2⟩ e
      | _ => cases e
  | bor l =>
    obtain ⟨p, vs, e1, h1, r1⟩ := ra
    cases b with
    | lst k => cases rb with | lst h2 r2 => exact lists ⟨p, vs, e1, h1, r1⟩ ⟨_, _, rfl, sm _ _ h2, r2⟩ e
    | bor k => obtain ⟨p', vs', e2, h2, r2⟩ := rb; exact lists ⟨p, vs, e1, h1, r1⟩ ⟨p', vs', e2, h2, r2⟩ e
    | _ => cases e
  | _ => cases e
theorem op_subP : OpR X (binaryOp .Sub) (rP X.K subD) := by
  intro pins s σ H x y v u Q I rx ry h
  obtain ⟨F, a, b, d, sm, ra, rb, e, q⟩ := h
  cases a with
  | int i =>
    cases b with
    | int j => cases e; cases ra; cases rb; exact op_sub pins s σ H _ _ v u Q I rx ry ⟨i, j, rfl, rfl, ext_same sm q (.int _)⟩
    | _ => cases e
  | _ => cases e
theorem rep_ok {n m : Nat} {k : Int} (h : repOk n k = some m) : k.toNat = m ∧ -(2 ^ 63) ≤ k ∧ k < 2 ^ 63 ∧ n * k.toNat ≤ sizeLine := by
  have hs := sizeLine_eq
  cases k with
  | ofNat a =>
    simp only [repOk] at h
    cases z : lenOk a with
    | false => rw [z] at h; cases h
    | true =>
      rw [z] at h
      cases z2 : lenOk (n * a) with
      | false => rw [z2] at h; cases h
      | true =>
        rw [z2] at h
        cases h
        have h1 := Nat.le_of_ble_eq_true (show Nat.ble m 1000000 = true from z)
        have h2 := Nat.le_of_ble_eq_true (show Nat.ble (n * m) 1000000 = true from z2)
        have e : (Int.ofNat m).toNat = m := rfl
        rw [e]
        refine ⟨rfl, ?_, ?_, by omega⟩ <;> (show _ ; simp only [Int.ofNat_eq_natCast]; omega)
  | negSucc a =>
    simp only [repOk] at h
    cases z : lenOk a with
    | false => rw [z] at h; cases h
    | true =>
      rw [z] at h
      cases h
      have h1 := Nat.le_of_ble_eq_true (show Nat.ble a 1000000 = true from z)
      have e : (Int.negSucc a).toNat = 0 := rfl
      rw [e]
      refine ⟨rfl, by omega, by omega, by omega⟩
theorem op_mulP : OpR X (binaryOp .Mult) (rP X.K mulD) := by
  intro pins s σ H x y v u Q I rx ry h
  obtain ⟨F, a, b, d, sm, ra, rb, e, q⟩ := h
  have lists : ∀ {l : List D} {k : Int}, (∃ p vs, x = .ref p ∧ H p = some (.lst vs) ∧ RdL X.K F l vs) → y = .int k → (repOk l.length k).map (fun m => D.lst (List.replicate m l).flatten) = some d →
      wpAny (model X.prog X.w) X.A (binaryOp .Mult v u) (EP X pins σ Q) X.xe s := fun {l k} ⟨p, vs, e1, h1, r1⟩ e2 e => by
    cases z : repOk l.length k with
    | none => rw [z] at e; cases e
    | some m =>
      rw [z] at e
      cases e
      obtain ⟨z1, z2, z3, z4⟩ := rep_ok z
      refine op_rep pins s σ H x y v u Q I rx ry ⟨p, k, vs, e1, e2, h1, z2, z3, by rw [← r1.length]; exact z4, fun t nt => ?_⟩
      rw [z1]
      have w := Ext.put sm nt (.lst (List.replicate m vs).flatten)
      exact q _ _ _ w (.of (.lst upd_same ((r1.flatRep m).same w.f)))
  cases a with
  | int i =>
    cases b with
    | int j =>
      simp only [mulD] at e
      cases z : mulOk i j with
      | false => rw [z] at e; cases e
      | true =>
        rw [z] at e
        cases e; cases ra; cases rb
        obtain ⟨t, rfl⟩ := rx
        obtain ⟨t', rfl⟩ := ry
        exact mul_int ⟨.int _, H, I.tok _, ⟨_, rfl⟩, ext_same sm q (.int _)⟩ (mulOk_ok z)
    | _ => cases e
  | lst l =>
    cases b with
    | int k => cases ra with | lst h1 r1 => cases rb; exact lists ⟨_, _, rfl, sm _ _ h1, r1⟩ rfl e
    | _ => cases e
  | bor l =>
    cases b with
    | int k => obtain ⟨p, vs, e1, h1, r1⟩ := ra; cases rb; exact lists ⟨p, vs, e1, h1, r1⟩ rfl e
    | _ => cases e
  | _ => cases e
theorem op_modP : OpR X (binaryOp .Mod) (rP X.K modD) := by
  intro pins s σ H x y v u Q I rx ry h
  obtain ⟨F, a, b, d, sm, ra, rb, e, q⟩ := h
  cases a with
  | int i =>
    cases b with
    | int j =>
      simp only [modD] at e
      cases z : PySem.W.Z.eqB j 0 with
      | true => rw [z] at e; cases e
      | false =>
        rw [z] at e
        cases e; cases ra; cases rb
        exact op_modN pins s σ H _ _ v u Q I rx ry ⟨i, j, rfl, rfl, (fun c => by rw [(PySem.W.Z.eqB_iff j 0).mpr c] at z; exact nomatch z), ext_same sm q (.int _)⟩
    | _ => cases e
  | _ => cases e
theorem op_divP : OpR X (binaryOp .FloorDiv) (rP X.K divD) := by
  intro pins s σ H x y v u Q I rx ry h
  obtain ⟨F, a, b, d, sm, ra, rb, e, q⟩ := h
  cases a with
  | int i =>
    cases b with
    | int j =>
      simp only [divD] at e
      cases z : divOk j with
      | false => rw [z] at e; cases e
      | true =>
        rw [z] at e
        cases e; cases ra; cases rb
        cases j with
        | ofNat n =>
          simp only [divOk] at z
          cases z0 : Nat.beq n 0 with
          | true => rw [z0] at z; cases z
          | false =>
            rw [z0] at z
            have n0 : n ≠ 0 := Nat.ne_of_beq_eq_false z0
            have zl : n.log2 < 9000 := PySem.W.Z.blt_iff.mp z
            refine op_fdivW pins s σ H _ _ v u Q I rx ry ⟨i, Int.ofNat n, rfl, rfl, ⟨by simp only [Int.ofNat_eq_natCast]; omega, zl⟩, ?_⟩
            have := ext_same sm q (.int _)
            rw [Int.fdiv_eq_ediv_of_nonneg i (by simp)] at this
            exact this
        | negSucc n =>
          have zl : n < 1073741823 := PySem.W.Z.blt_iff.mp z
          exact op_fdivN pins s σ H _ _ v u Q I rx ry ⟨i, Int.negSucc n, rfl, rfl, ⟨by omega, by show n + 1 < 1073741824; omega⟩, ext_same sm q (.int _)⟩
    | _ => cases e
  | _ => cases e
theorem op_powP : OpR X (binaryOp .Pow) (rP X.K powD) := by
  intro pins s σ H x y v u Q I rx ry h
  obtain ⟨F, a, b, d, sm, ra, rb, e, q⟩ := h
  cases a with
  | int i =>
    cases b with
    | int j =>
      cases j with
      | negSucc n => cases e
      | ofNat n =>
        simp only [powD] at e
        cases z : Nat.ble n 1000 with
        | false => rw [z] at e; cases e
        | true =>
          rw [z] at e
          cases z2 : inW i with
          | false => rw [z2] at e; cases e
          | true =>
            rw [z2] at e
            cases e; cases ra; cases rb
            have hn := Nat.le_of_ble_eq_true z
            have hw := inW_ok z2
            refine op_pow pins s σ H _ _ v u Q I rx ry ⟨i, Int.ofNat n, rfl, rfl, ⟨by simp, by simp only [Int.ofNat_eq_natCast]; omega, by omega⟩, ext_same sm q (.int _)⟩
    | _ => cases e
  | _ => cases e
theorem un_negP : UnR X (unaryOp .USub) (rU1 X.K negD) := by
  intro pins s σ H x v Q I rx h
  obtain ⟨F, a, d, sm, ra, e, q⟩ := h
  cases a with
  | int i => cases e; cases ra; exact un_neg pins s σ H _ v Q I rx ⟨i, rfl, ext_same sm q (.int _)⟩
  | _ => cases e

/-! ### order -/
def lexI : List D → List D → Option Bool
  | [], k => (match k with | [] => some false | _ :: _ => some true)
  | x :: l, k => (match k with
    | [] => some false
    | y :: r => (match x with
      | .int i => (match y with | .int j => (match PySem.W.Z.eqB i j with | true => lexI l r | false => some (PySem.W.Z.ltB i j)) | _ => none)
      | _ => none))
def ltD (x y : D) : Option D := match x with
  | .int i => (match y with | .int j => some (.bl (PySem.W.Z.ltB i j)) | _ => none)
  | _ => none
def leD (x y : D) : Option D := match x with
  | .int i => (match y with | .int j => some (.bl (PySem.W.Z.leB i j)) | _ => none)
  | _ => none
def gtD (x y : D) : Option D := match x with
  | .int i => (match y with | .int j => some (.bl (PySem.W.Z.ltB j i)) | _ => none)
  | _ => none
def geD (x y : D) : Option D := match x with
  | .int i => (match y with | .int j => some (.bl (PySem.W.Z.leB j i)) | _ => none)
  | _ => none
theorem zlt (i j : Int) : decide (i < j) = PySem.W.Z.ltB i j := by rw [Bool.eq_iff_iff, PySem.W.Z.ltB_iff]; simp
theorem zle (i j : Int) : decide (i ≤ j) = PySem.W.Z.leB i j := by rw [Bool.eq_iff_iff, PySem.W.Z.leB_iff]; simp
theorem op_ltP : OpR X (compareOp .Lt) (rP X.K ltD) := by
  intro pins s σ H x y v u Q I rx ry h
  obtain ⟨F, a, b, d, sm, ra, rb, e, q⟩ := h
  cases a with
  | int i =>
    cases b with
    | int j => cases e; cases ra; cases rb; exact op_lt pins s σ H _ _ v u Q I rx ry ⟨i, j, rfl, rfl, by dsimp only; rw [zlt]; exact ext_same sm q (.bl _)⟩
    | _ => cases e
  | _ => cases e
theorem op_leP : OpR X (compareOp .LtE) (rP X.K leD) := by
  intro pins s σ H x y v u Q I rx ry h
  obtain ⟨F, a, b, d, sm, ra, rb, e, q⟩ := h
  cases a with
  | int i =>
    cases b with
    | int j => cases e; cases ra; cases rb; exact op_le pins s σ H _ _ v u Q I rx ry ⟨i, j, rfl, rfl, by dsimp only; rw [zle]; exact ext_same sm q (.bl _)⟩
    | _ => cases e
  | _ => cases e
theorem op_gtP : OpR X (compareOp .Gt) (rP X.K gtD) := by
  intro pins s σ H x y v u Q I rx ry h
  obtain ⟨F, a, b, d, sm, ra, rb, e, q⟩ := h
  cases a with
  | int i =>
    cases b with
    | int j => cases e; cases ra; cases rb; exact op_gt pins s σ H _ _ v u Q I rx ry ⟨i, j, rfl, rfl, by dsimp only; rw [zlt]; exact ext_same sm q (.bl _)⟩
    | _ => cases e
  | _ => cases e
theorem op_geP : OpR X (compareOp .GtE) (rP X.K geD) := by
  intro pins s σ H x y v u Q I rx ry h
  obtain ⟨F, a, b, d, sm, ra, rb, e, q⟩ := h
  cases a with
  | int i =>
    cases b with
    | int j => cases e; cases ra; cases rb; exact op_ge pins s σ H _ _ v u Q I rx ry ⟨i, j, rfl, rfl, by dsimp only; rw [zle]; exact ext_same sm q (.bl _)⟩
    | _ => cases e
  | _ => cases e

/-! ### subscripts -/
def ixK (n : Nat) (i : Int) : Option Nat := match i with
  | .ofNat k => (match Nat.blt k n with | true => some k | false => none)
  | .negSucc k => (match Nat.blt k n with | true => some (n - (k + 1)) | false => none)
theorem ixK_ok (n : Nat) (i : Int) : ixK n i = ixN n i := by
  unfold ixN
  cases i with
  | ofNat k =>
    simp only [ixK, Int.ofNat_eq_natCast]
    rw [if_pos (by omega)]
    cases z : Nat.blt k n with
    | true => have := PySem.W.Z.blt_iff.mp z; rw [if_pos (by omega)]; simp
    | false =>
      rw [if_neg]
      intro c
      have : Nat.blt k n = true := PySem.W.Z.blt_iff.mpr (by omega)
      rw [this] at z; cases z
  | negSucc k =>
    simp only [ixK]
    rw [if_neg (by omega)]
    cases z : Nat.blt k n with
    | true => have := PySem.W.Z.blt_iff.mp z; rw [if_pos (by omega)]; simp only [Option.some.injEq]; omega
    | false =>
      rw [if_neg]
      intro c
      have : Nat.blt k n = true := PySem.W.Z.blt_iff.mpr (by omega)
      rw [this] at z; cases z
def nthD : List D → Nat → Option D
  | [], _ => none
  | x :: l, n => (match n with | 0 => some x | n + 1 => nthD l n)
theorem nthD_eq : ∀ (l : List D) (n : Nat), nthD l n = l[n]?
  | [], _ => rfl
  | x :: l, 0 => rfl
  | x :: l, n + 1 => by simp only [nthD, nthD_eq l n, List.getElem?_cons_succ]
/-- an item; small places at once -/
def atD (l : List D) (i : Int) : Option D := match i with
  | .ofNat k => nthD l k
  | .negSucc _ => (ixK l.length i).bind fun j => nthD l j
theorem atD_eq (l : List D) (i : Int) : atD l i = atI l i := by
  unfold atI
  cases i with
  | ofNat k =>
    rw [← ixK_ok]
    simp only [atD, ixK, nthD_eq]
    cases z : Nat.blt k l.length with
    | true => rfl
    | false =>
      have : l.length ≤ k := by
        apply Nat.le_of_not_lt
        intro c
        rw [PySem.W.Z.blt_iff.mpr c] at z; cases z
      simp [List.getElem?_eq_none this]
  | negSucc k =>
    rw [← ixK_ok]
    simp only [atD, nthD_eq]
def ixD (x y : D) : Option D := match y with
  | .int i => (match x with
    | .tup l => atD l i
    | .lst l => atD l i
    | .bor l => atD l i
    | _ => none)
  | _ => none
theorem RdL.atI {K : PySem.W.Frag} {F : Hp} {l : List D} {vs : List V} {i : Int} {d : D} (r : RdL K F l vs) (h : atD l i = some d) : ∃ v, L2.atI vs i = some v ∧ Rd K F d v := by
  rw [atD_eq] at h
  unfold L2.atI at h ⊢
  rw [← r.length]
  cases z : ixN l.length i with
  | none => rw [z] at h; cases h
  | some j =>
    rw [z] at h
    obtain ⟨v, a, b⟩ := r.get (i := j) h
    exact ⟨v, a, b⟩
theorem ix_P : IxR X (rP X.K ixD) := by
  intro value slice pins s σ H x y v u Q I rx ry h hs
  obtain ⟨F, a, b, d, sm, ra, rb, e, q⟩ := h
  cases b with
  | int i =>
    cases rb
    cases a with
    | tup l =>
      cases ra with
      | tup h1 r1 =>
        obtain ⟨w, e1, r2⟩ := r1.atI e
        exact ix_tup value slice pins s σ H _ _ v u Q I rx ry ⟨_, _, i, w, rfl, rfl, SqT.same sm h1, e1, ext_same sm q (.of r2)⟩ hs
    | lst l =>
      cases ra with
      | lst h1 r1 =>
        obtain ⟨w, e1, r2⟩ := r1.atI e
        exact ix_list value slice pins s σ H _ _ v u Q I rx ry ⟨_, _, i, w, rfl, rfl, .inl (.inl (sm _ _ h1)), e1, ext_same sm q (.of r2)⟩ hs
    | bor l =>
      obtain ⟨p, vs, rfl, h1, r1⟩ := ra
      obtain ⟨w, e1, r2⟩ := r1.atI e
      exact ix_list value slice pins s σ H _ _ v u Q I rx ry ⟨_, _, i, w, rfl, rfl, .inl (.inl h1), e1, ext_same sm q (.of r2)⟩ hs
    | _ => cases e
  | _ => cases e
end
section
variable {X : Cx} {cl : Nat → Value} {W : WX} {a b : Expr} {A B : CE} {pos : Pos}
theorem pp_ix (ha : PP X cl W a A) (hb : PP X cl W b B) (hs : PlainIx b := by exact fun _ _ => rfl) : PP X cl W (.Subscript a b pos) (c2 ixD A B) := PE.imp (pe_ix ix_P ha hb hs) fun _ _ _ => go2
end
end M
namespace M
open PySem PySem.Spec PyProof.Rows L2

/-! ### slices -/
def ixS (n d : Nat) : Option Int → Nat
  | none => d
  | some v => (match v with
    | .ofNat k => (match Nat.ble k n with | true => k | false => n)
    | .negSucc k => n - (k + 1))
theorem ixS_eq (n d : Nat) (o : Option Int) : ixS n d o = HT.sIx n d o := by
  cases o with
  | none => rfl
  | some v =>
    cases v with
    | ofNat k =>
      show (match Nat.ble k n with | true => k | false => n) = (if (k : Int) < 0 then ((k : Int) + (n : Int)).toNat else min (k : Int).toNat n)
      rw [if_neg (by omega), Int.toNat_natCast]
      cases z : Nat.ble k n with
      | true => have := Nat.le_of_ble_eq_true z; show k = _; omega
      | false =>
        have : ¬ k ≤ n := fun c => by rw [Nat.ble_eq_true_of_le c] at z; cases z
        show n = _; omega
    | negSucc k =>
      show n - (k + 1) = (if Int.negSucc k < 0 then (Int.negSucc k + (n : Int)).toNat else min (Int.negSucc k).toNat n)
      rw [if_pos (by omega)]; omega
def cutL {α : Type} (xs : List α) (lo hi : Option Int) : List α := (xs.drop (ixS xs.length 0 lo)).take (ixS xs.length xs.length hi - ixS xs.length 0 lo)
def optI : D → Option Int
  | .int i => some i
  | _ => none
abbrev CO := En → Res (Option Int)
def oN : CO := fun _ => .ok none
def oS (A : CE) : CO := fun e => (A e).bind fun d => match d with | .int i => .ok (some i) | _ => .bad
def slD (d : D) (lo hi : Option Int) : Option D := match d with
  | .tup l => some (.tup (cutL l lo hi))
  | .lst l => some (.lst (cutL l lo hi))
  | .bor l => some (.lst (cutL l lo hi))
  | _ => none
def cSl (A : CE) (L U : CO) : CE := fun e => (A e).bind fun d => (L e).bind fun lo => (U e).bind fun hi => ofO (slD d lo hi)
theorem RdL.cut {K : PySem.W.Frag} {F : Hp} {l : List D} {vs : List V} (r : RdL K F l vs) (lo hi : Option Int) : RdL K F (cutL l lo hi) (cutV vs lo hi) := by
  unfold cutL cutV
  rw [ixS_eq, ixS_eq, r.length]
  exact (r.drop _).take _
section
variable {K : PySem.W.Frag} {cl : Nat → Value} {W : WX}
def PostO (F H : Hp) (σ : St) (Q : Option Int → Hp → Prop) : Res (Option Int) → Prop
  | .ok o => ∀ F' H', Ext F H F' H' → Q o H'
  | .exc c => ∀ F' H', Ext F H F' H' → W (cl c) none σ H'
  | .bad => False
end
def PPO (X : Cx) (cl : Nat → Value) (W : WX) (e : Option Expr) (A : CO) : Prop := PO X e (fun σ H Q => ∃ F ev, Stt X.K F ev σ H ∧ PostO (cl := cl) (W := W) F H σ Q (A ev))
theorem PO.imp {X : Cx} {e : Option Expr} {t t' : TO} (h : PO X e t) (i : ∀ σ H Q, t' σ H Q → t σ H Q) : PO X e t' := ⟨fun pins s σ H Q I q => h.run pins s σ H Q I (i σ H Q q)⟩
section
variable {X : Cx} {cl : Nat → Value} {W : WX} {a b : Expr} {A B : CE} {pos p2 : Pos}
theorem ppo_none : PPO X cl W none oN := PO.imp po_none fun _ H _ ⟨F, e, st, h⟩ => h F H (Ext.refl st.sub)
theorem ppo_some (ha : PP X cl W a A) : PPO X cl W (some a) (oS A) := PO.imp (po_some ha) fun σ H Q ⟨F, e, st, h⟩ => by
  refine ⟨F, e, st, ?_⟩
  unfold oS at h
  cases q : A e with
  | ok d =>
    rw [q] at h
    intro F' H' v x r
    cases d with
    | int i => cases r; exact ⟨i, rfl, h F' H' x⟩
    | _ => exact h.elim
  | exc c => rw [q] at h; exact h
  | bad => rw [q] at h; exact h
def rSlP (K : PySem.W.Frag) : V → Option Int → Option Int → Hp → VK → Prop := fun x lo hi H Q => ∃ F a d, Same F H ∧ RdT K F H a x ∧ slD a lo hi = some d ∧ ∀ F' H' v, Ext F H F' H' → RdT K F' H' d v → Q v H'
theorem sl_P : SlR X (rSlP X.K) := by
  intro pins s σ H x v vl vu lo hi sl Q I rx hs pl pu h
  obtain ⟨F, a, d, sm, ra, e, q⟩ := h
  have lists : ∀ {l : List D}, (∃ p vs, x = .ref p ∧ H p = some (.lst vs) ∧ RdL X.K F l vs) → d = .lst (cutL l lo hi) → ∃ T id, typeLookup (.type T) "__getitem__" = pure (some (.builtin id)) ∧ s.TypeIs v T ∧ wpAny (model X.prog X.w) X.A (getItem v (.ref sl)) (EP X pins σ Q) X.xe s :=
    fun {l} ⟨p, vs, e1, h1, r1⟩ ed => by
    subst ed
    refine sl_list pins s σ H x v vl vu lo hi sl Q I rx hs pl pu ⟨p, vs, e1, .inl (.inl h1), fun t nt => ?_⟩
    have w := Ext.put sm nt (.lst (cutV vs lo hi))
    exact q _ _ _ w (.of (.lst upd_same ((r1.cut lo hi).same w.f)))
  cases a with
  | tup l =>
    cases e
    cases ra with
    | tup h1 r1 =>
      rename_i p vs
      refine sl_tupA pins s σ H _ v vl vu lo hi sl Q I rx hs pl pu ⟨p, vs, rfl, SqT.same sm h1, fun hw => ?_, fun _ t nt => ?_⟩
      · have hw' : cutL l lo hi = l := by
          unfold cutL
          rw [ixS_eq, ixS_eq, r1.length, hw.1, hw.2, List.drop_zero, Nat.sub_zero, ← r1.length]
          exact List.take_length
        rw [hw'] at q
        exact ext_same sm q (.of (.tup h1 r1))
      · have w := Ext.put sm nt (.tup (cutV vs lo hi))
        exact q _ _ _ w (.of (.tup (.of upd_same) ((r1.cut lo hi).same w.f)))
  | lst l => cases e; cases ra with | lst h1 r1 => exact lists ⟨_, _, rfl, sm _ _ h1, r1⟩ rfl
  | bor l => cases e; obtain ⟨p, vs, e1, h1, r1⟩ := ra; exact lists ⟨p, vs, e1, h1, r1⟩ rfl
  | _ => cases e
theorem pp_slice {lo hi : Option Expr} {L U : CO} (ha : PP X cl W a A) (hl : PPO X cl W lo L) (hu : PPO X cl W hi U) : PP X cl W (.Subscript a (.Slice lo hi none p2) pos) (cSl A L U) := PE.imp (pe_slice sl_P ha hl hu) fun σ H Q ⟨F, e, st, h⟩ => by
  refine go1E st h fun d F1 H1 v x1 st1 r1 h1 => ?_
  refine ⟨F1, e, st1, ?_⟩
  cases q : L e with
  | exc c => rw [q] at h1; exact h1
  | bad => rw [q] at h1; exact h1
  | ok lo =>
    rw [q] at h1
    intro F2 H2 x2
    refine ⟨F2, e, st1.ext x2, ?_⟩
    have h2 := PostE.ext (r := (U e).bind fun hi => ofO (slD d lo hi)) h1 x2
    cases q2 : U e with
    | exc c => rw [q2] at h2; exact h2
    | bad => rw [q2] at h2; exact h2
    | ok hi =>
      rw [q2] at h2
      intro F3 H3 x3
      have h3 := PostE.ext (r := ofO (slD d lo hi)) h2 x3
      cases q3 : slD d lo hi with
      | none => rw [q3] at h3; exact h3.elim
      | some z => rw [q3] at h3; exact ⟨F3, d, z, x3.sub, (r1.same x2.f x2.h).same x3.f x3.h, q3, h3⟩
end

/-! ### built-ins of one and two values -/
def rB1 (K : PySem.W.Frag) (f : D → Option D) : List V → Hp → VK → Prop := fun xs H Q => ∃ F a x d, xs = [x] ∧ Same F H ∧ RdT K F H a x ∧ f a = some d ∧ ∀ F' H' v, Ext F H F' H' → RdT K F' H' d v → Q v H'
def rB2 (K : PySem.W.Frag) (f : D → D → Option D) : List V → Hp → VK → Prop := fun xs H Q => ∃ F a x b y d, xs = [x, y] ∧ Same F H ∧ RdT K F H a x ∧ RdT K F H b y ∧ f a b = some d ∧ ∀ F' H' v, Ext F H F' H' → RdT K F' H' d v → Q v H'
section
variable {X : Cx} {cl : Nat → Value} {W : WX} {a b : Expr} {A B : CE} {pos p : Pos} {idn T : String} {x : Str}
theorem goB1 {f : D → Option D} {σ : St} {H : Hp} {Q : VK} (h : tp X.K cl W (c1 f A) σ H Q) : tCB (rB1 X.K f) (tCons (tp X.K cl W A) tNil) σ H Q := by
  obtain ⟨F, e, st, h⟩ := h
  refine go1E st h fun d F1 H1 v x1 st1 r1 h1 => ?_
  cases q : f d with
  | none => rw [q] at h1; exact h1.elim
  | some z => rw [q] at h1; exact ⟨F1, d, v, z, rfl, st1.sub, r1, q, h1⟩
theorem goB2 {f : D → D → Option D} {σ : St} {H : Hp} {Q : VK} (h : tp X.K cl W (c2 f A B) σ H Q) : tCB (rB2 X.K f) (tCons (tp X.K cl W A) (tCons (tp X.K cl W B) tNil)) σ H Q := by
  obtain ⟨F, e, st, h⟩ := h
  refine go1E st h fun d F1 H1 v x1 st1 r1 h1 => go1E st1 h1 fun d2 F2 H2 v2 x2 st2 r2 h2 => ?_
  cases q : f d d2 with
  | none => rw [q] at h2; exact h2.elim
  | some z => rw [q] at h2; exact ⟨F2, d, v, d2, v2, z, rfl, st2.sub, r1.same x2.f x2.h, r2, q, h2⟩
theorem pp_b1 {f : D → Option D} (hc : CallR X (.builtin idn) (rB1 X.K f)) (hg : Gl X x) (hm : X.mg x = none) (hv : bootBuiltins x = some (.builtin idn)) (ha : PP X cl W a A) (hn : x ≠ "__name__" := by decide) (hdb : (x == ("__debug__" : Str)) = false := by decide)
    (he : starEach [a] X.env = (false, eval a X.env) :: starEach [] X.env := by rfl) (hpl : (backTo pos (starEach [] X.env)).any (·.1) = false := by rfl) : PP X cl W (.Call (.Name x p) [a] [] pos) (c1 f A) :=
  PE.imp (pe_callB hc hg hm hv (pa_cons ha pa_nil he) hn hdb he hpl) fun _ _ _ => goB1
theorem pp_ty1 {f : D → Option D} (hc : CallR X (.type T) (rB1 X.K f)) (hg : Gl X x) (hm : X.mg x = none) (hv : bootBuiltins x = some (.type T)) (ha : PP X cl W a A) (hn : x ≠ "__name__" := by decide) (hdb : (x == ("__debug__" : Str)) = false := by decide)
    (he : starEach [a] X.env = (false, eval a X.env) :: starEach [] X.env := by rfl) (hpl : (backTo pos (starEach [] X.env)).any (·.1) = false := by rfl) : PP X cl W (.Call (.Name x p) [a] [] pos) (c1 f A) :=
  PE.imp (pe_callTy hc hg hm hv (pa_cons ha pa_nil he) hn hdb he hpl) fun _ _ _ => goB1
theorem pp_b2 {f : D → D → Option D} (hc : CallR X (.builtin idn) (rB2 X.K f)) (hg : Gl X x) (hm : X.mg x = none) (hv : bootBuiltins x = some (.builtin idn)) (ha : PP X cl W a A) (hb : PP X cl W b B) (hn : x ≠ "__name__" := by decide) (hdb : (x == ("__debug__" : Str)) = false := by decide)
    (he : starEach [a, b] X.env = (false, eval a X.env) :: starEach [b] X.env := by rfl) (he2 : starEach [b] X.env = (false, eval b X.env) :: starEach [] X.env := by rfl) (hpl : (backTo pos (starEach [b] X.env)).any (·.1) = false := by rfl) : PP X cl W (.Call (.Name x p) [a, b] [] pos) (c2 f A B) :=
  PE.imp (pe_callB hc hg hm hv (pa_cons ha (pa_cons hb pa_nil he2) he) hn hdb he hpl) fun _ _ _ => goB2

/-- len, abs, list, tuple, int -/
def lenD : D → Option D
  | .tup l => some (.int l.length)
  | .lst l => some (.int l.length)
  | .bor l => some (.int l.length)
  | _ => none
theorem call_lenP : CallR X (.builtin "len") (rB1 X.K lenD) := by
  intro pins s σ H xs us Q I r h
  obtain ⟨F, a, x, d, rfl, sm, ra, e, q⟩ := h
  refine call_len_seq pins s σ H _ us Q I r ?_
  cases a with
  | tup l => cases e; cases ra with | tup h1 r1 => exact ⟨_, _, rfl, .inr (SqT.same sm h1), by rw [← r1.length]; exact ext_same sm q (.int _)⟩
  | lst l => cases e; cases ra with | lst h1 r1 => exact ⟨_, _, rfl, .inl (.inl (.inl (sm _ _ h1))), by rw [← r1.length]; exact ext_same sm q (.int _)⟩
  | bor l => cases e; obtain ⟨p, vs, rfl, h1, r1⟩ := ra; exact ⟨_, _, rfl, .inl (.inl (.inl h1)), by rw [← r1.length]; exact ext_same sm q (.int _)⟩
  | _ => cases e
def absD : D → Option D
  | .int i => some (.int (match i with | .ofNat n => .ofNat n | .negSucc n => .ofNat (n + 1)))
  | _ => none
theorem call_absP : CallR X (.builtin "abs") (rB1 X.K absD) := by
  intro pins s σ H xs us Q I r h
  obtain ⟨F, a, x, d, rfl, sm, ra, e, q⟩ := h
  cases a with
  | int i =>
    cases e; cases ra
    refine call_abs pins s σ H _ us Q I r ⟨i, rfl, ?_⟩
    have z := ext_same sm q (.int _)
    cases i with
    | ofNat n => rw [if_neg (by simp)]; exact z
    | negSucc n => rw [if_pos (by omega)]; exact z
  | _ => cases e
def toLst : D → Option (List D)
  | .tup l => some l
  | .lst l => some l
  | .bor l => some l
  | _ => none
def listD (d : D) : Option D := (toLst d).map .lst
theorem call_listP : CallR X (.type "list") (rB1 X.K listD) := by
  intro pins s σ H xs us Q I r h
  obtain ⟨F, a, x, d, rfl, sm, ra, e, q⟩ := h
  refine call_list_of pins s σ H _ us Q I r ?_
  have fin : ∀ {l : List D} {vs : List V}, RdL X.K F l vs → d = .lst l → ∀ p, H p = none → Q (.ref p) (upd H p (.lst vs)) := fun {l vs} r1 ed p np => by
    subst ed
    have w := Ext.put sm np (.lst vs)
    exact q _ _ _ w (.of (.lst upd_same (r1.same w.f)))
  cases a with
  | tup l => cases e; cases ra with | tup h1 r1 => exact ⟨_, _, rfl, .inr (SqT.same sm h1), fin r1 rfl⟩
  | lst l => cases e; cases ra with | lst h1 r1 => exact ⟨_, _, rfl, .inl (.inl (.inl (sm _ _ h1))), fin r1 rfl⟩
  | bor l => cases e; obtain ⟨p, vs, rfl, h1, r1⟩ := ra; exact ⟨_, _, rfl, .inl (.inl (.inl h1)), fin r1 rfl⟩
  | _ => cases e
def tupleD (d : D) : Option D := (toLst d).map .tup
theorem call_tupleP : CallR X (.type "tuple") (rB1 X.K tupleD) := by
  intro pins s σ H xs us Q I r h
  obtain ⟨F, a, x, d, rfl, sm, ra, e, q⟩ := h
  refine call_tuple_of pins s σ H _ us Q I r ?_
  have fin : ∀ {l : List D} {vs : List V}, RdL X.K F l vs → d = .tup l → ∀ p, H p = none → Q (.ref p) (upd H p (.tup vs)) := fun {l vs} r1 ed p np => by
    subst ed
    have w := Ext.put sm np (.tup vs)
    exact q _ _ _ w (.of (.tup (.of upd_same) (r1.same w.f)))
  cases a with
  | tup l => cases e; cases ra with | tup h1 r1 => exact ⟨_, _, rfl, .inr ⟨SqT.same sm h1, ext_same sm q (.of (.tup h1 r1))⟩⟩
  | lst l => cases e; cases ra with | lst h1 r1 => exact ⟨_, _, rfl, .inl ⟨.inl (.inl (sm _ _ h1)), fin r1 rfl⟩⟩
  | bor l => cases e; obtain ⟨p, vs, rfl, h1, r1⟩ := ra; exact ⟨_, _, rfl, .inl ⟨.inl (.inl h1), fin r1 rfl⟩⟩
  | _ => cases e
def intD : D → Option D
  | .int i => some (.int i)
  | .bl b => some (.int (match b with | true => 1 | false => 0))
  | _ => none
theorem call_intP : CallR X (.type "int") (rB1 X.K intD) := by
  intro pins s σ H xs us Q I r h
  obtain ⟨F, a, x, d, rfl, sm, ra, e, q⟩ := h
  refine call_int1 pins s σ H _ us Q I r ?_
  cases a with
  | int i => cases e; cases ra; exact .inl ⟨i, rfl, ext_same sm q (.int _)⟩
  | bl b => cases e; cases ra; exact .inr ⟨b, rfl, by cases b <;> exact ext_same sm q (.int _)⟩
  | _ => cases e
/-- all, any of a list of bools -/
def bools : List D → Option (List Bool)
  | [] => some []
  | x :: l => (match x with | .bl b => (bools l).map (b :: ·) | _ => none)
theorem bools_rd {K : PySem.W.Frag} {F : Hp} : ∀ {l : List D} {vs : List V} {bs : List Bool}, RdL K F l vs → bools l = some bs → vs = bs.map V.bl
  | _, _, _, .nil, h => by cases h; rfl
  | _, _, _, .cons (d := d) (l := l) r t, h => by
    cases d with
    | bl b =>
      cases r
      simp only [bools] at h
      cases q : bools l with
      | none => rw [q] at h; cases h
      | some bs => rw [q] at h; cases h; rw [bools_rd t q]; rfl
    | _ => cases h
def allB : List D → Option Bool
  | [] => some true
  | x :: l => (match x with | .bl b => (match allB l with | some r => some (b && r) | none => none) | _ => none)
def anyB : List D → Option Bool
  | [] => some false
  | x :: l => (match x with | .bl b => (match anyB l with | some r => some (b || r) | none => none) | _ => none)
theorem allB_eq : ∀ {l : List D} {b : Bool}, allB l = some b → ∃ bs, bools l = some bs ∧ bs.all id = b
  | [], _, h => by cases h; exact ⟨[], rfl, rfl⟩
  | d :: l, b, h => by
    cases d with
    | bl c =>
      simp only [allB] at h
      cases q : allB l with
      | none => rw [q] at h; cases h
      | some r =>
        rw [q] at h; cases h
        obtain ⟨bs, e1, e2⟩ := allB_eq q
        exact ⟨c :: bs, by simp [bools, e1], by simp [← e2]⟩
    | _ => cases h
theorem anyB_eq : ∀ {l : List D} {b : Bool}, anyB l = some b → ∃ bs, bools l = some bs ∧ bs.any id = b
  | [], _, h => by cases h; exact ⟨[], rfl, rfl⟩
  | d :: l, b, h => by
    cases d with
    | bl c =>
      simp only [anyB] at h
      cases q : anyB l with
      | none => rw [q] at h; cases h
      | some r =>
        rw [q] at h; cases h
        obtain ⟨bs, e1, e2⟩ := anyB_eq q
        exact ⟨c :: bs, by simp [bools, e1], by simp [← e2]⟩
    | _ => cases h
def lstOf : D → Option (List D)
  | .lst l => some l
  | .bor l => some l
  | _ => none
def allD (d : D) : Option D := (lstOf d).bind fun l => (allB l).map .bl
def anyD (d : D) : Option D := (lstOf d).bind fun l => (anyB l).map .bl
theorem RdT.lst {K : PySem.W.Frag} {F H : Hp} (sm : Same F H) {d : D} {v : V} {l : List D} (r : RdT K F H d v) (e : lstOf d = some l) : ∃ p vs, v = .ref p ∧ H p = some (.lst vs) ∧ RdL K F l vs := by
  cases d with
  | lst k => cases e; cases r with | lst h1 r1 => exact ⟨_, _, rfl, sm _ _ h1, r1⟩
  | bor k => cases e; exact r
  | _ => cases e
theorem call_allP (hc : X.calm = true) : CallR X (.builtin "all") (rB1 X.K allD) := by
  intro pins s σ H xs us Q I r h
  obtain ⟨F, a, x, d, rfl, sm, ra, e, q⟩ := h
  unfold allD at e
  cases z : lstOf a with
  | none => rw [z] at e; cases e
  | some l =>
    rw [z] at e
    obtain ⟨p, vs, rfl, h1, r1⟩ := ra.lst sm z
    simp only [Option.bind_some] at e
    cases z2 : allB l with
    | none => rw [z2] at e; cases e
    | some b =>
      rw [z2] at e; cases e
      obtain ⟨bs, e1, e2⟩ := allB_eq z2
      refine cr_all hc pins s σ H _ us Q I r ⟨p, bs, rfl, .inl (.inl ?_), by rw [e2]; exact ext_same sm q (.bl _)⟩
      rw [← bools_rd r1 e1]; exact h1
theorem call_anyP (hc : X.calm = true) : CallR X (.builtin "any") (rB1 X.K anyD) := by
  intro pins s σ H xs us Q I r h
  obtain ⟨F, a, x, d, rfl, sm, ra, e, q⟩ := h
  unfold anyD at e
  cases z : lstOf a with
  | none => rw [z] at e; cases e
  | some l =>
    rw [z] at e
    obtain ⟨p, vs, rfl, h1, r1⟩ := ra.lst sm z
    simp only [Option.bind_some] at e
    cases z2 : anyB l with
    | none => rw [z2] at e; cases e
    | some b =>
      rw [z2] at e; cases e
      obtain ⟨bs, e1, e2⟩ := anyB_eq z2
      refine cr_any hc pins s σ H _ us Q I r ⟨p, bs, rfl, .inl (.inl ?_), by rw [e2]; exact ext_same sm q (.bl _)⟩
      rw [← bools_rd r1 e1]; exact h1

/-! ### isinstance -/
inductive Ty where
  | int | bool | tuple | list | str
def Ty.nm : Ty → String
  | .int => "int" | .bool => "bool" | .tuple => "tuple" | .list => "list" | .str => "str"
def isT : D → Ty → Bool
  | .int _, t => (match t with | .int => true | _ => false)
  | .bl _, t => (match t with | .int => true | .bool => true | _ => false)
  | .tup _, t => (match t with | .tuple => true | _ => false)
  | .lst _, t => (match t with | .list => true | _ => false)
  | .bor _, t => (match t with | .list => true | _ => false)
  | .str _, t => (match t with | .str => true | _ => false)
  | .non, _ => false
def tyNm : D → String
  | .int _ => "int" | .bl _ => "bool" | .tup _ => "tuple" | .lst _ => "list" | .bor _ => "list" | .str _ => "str" | .non => "NoneType"
theorem kit_tab : ∀ n ∈ ["int", "bool", "tuple", "list", "str", "NoneType"], ∀ t ∈ ["int", "bool", "tuple", "list", "str"], kitB n t = some (n == t || (n == "bool" && t == "int")) := by decide +kernel
theorem isT_kit (d : D) (t : Ty) : kitB (tyNm d) t.nm = some (isT d t) := by
  have h := kit_tab (tyNm d) (by cases d <;> simp [tyNm]) t.nm (by cases t <;> simp [Ty.nm])
  rw [h]
  cases d <;> cases t <;> rfl
theorem tyx {K : PySem.W.Frag} {F H : Hp} (sm : Same F H) {d : D} {v : V} (r : RdT K F H d v) : TyX K H v (.type (tyNm d)) := by
  cases d with
  | non => cases r; exact .base .non
  | bl b => cases r; exact .base (.bl b)
  | int i => cases r; exact .base (.int i)
  | str x => cases r; exact .base (.str x)
  | lst l => cases r with | lst h1 r1 => exact .base (.lst (sm _ _ h1))
  | bor l => obtain ⟨p, vs, rfl, h1, r1⟩ := r; exact .base (.lst h1)
  | tup l =>
    cases r with
    | tup h1 r1 =>
      rcases SqT.same sm h1 with (h | ⟨o, h⟩) | ⟨o, its, n, h, hc, _⟩
      · exact .base (.tup h)
      · exact .fTuple h
      · exact .kTuple h hc
def isiD (t : Ty) (d : D) : Option D := some (.bl (isT d t))
def isiAny : List Ty → D → Bool
  | [], _ => false
  | t :: r, d => match isT d t with | true => true | false => isiAny r d
def isiTD (ts : List Ty) (d : D) : Option D := some (.bl (isiAny ts d))
theorem pp_isi {t : Ty} {y : Str} {p2 : Pos} (hg : Gl X "isinstance") (hm : X.mg "isinstance" = none) (hgy : Gl X y) (hmy : X.mg y = none) (hvy : bootBuiltins y = some (.type t.nm)) (ha : PP X cl W a A) (hny : y ≠ "__name__" := by decide) (hdy : (y == ("__debug__" : Str)) = false := by decide)
    (he : starEach [a, .Name y p2] X.env = (false, eval a X.env) :: starEach [.Name y p2] X.env := by rfl) (hpl : (backTo pos (starEach [.Name y p2] X.env)).any (·.1) = false := by rfl) : PP X cl W (.Call (.Name "isinstance" p) [a, .Name y p2] [] pos) (c1 (isiD t) A) :=
  PE.imp (pe_callB call_isi hg hm boot_isinstance (pa_cons ha (pa_cons (pe_bltn (v := .ty t.nm) hgy hmy hvy rfl hny hdy) pa_nil) he) (by decide) (by decide) he hpl) fun σ H Q ⟨F, e, st, h⟩ => go1E st h fun d F1 H1 v x1 st1 r1 h1 =>
    ⟨v, .ty t.nm, .type (tyNm d), .type t.nm, isT d t, rfl, .ty _, tyx st1.sub r1, kit_ty (isT_kit d t), PostE.at h1 st1.sub (.bl _)⟩
theorem kit_any {K : PySem.W.Frag} (d : D) : ∀ ts : List Ty, PySem.W.kitAny K (.type (tyNm d)) (ts.map fun t => .type t.nm) = some (isiAny ts d)
  | [] => kitAny_nil
  | t :: r => by
    refine kitAny_cons (kit_ty (isT_kit d t)) (fun z => ?_) (fun z => ?_)
    · rw [kit_any d r]; simp only [isiAny, z]
    · simp only [isiAny, z]
theorem pp_isi2 {t1 t2 : Ty} {y1 y2 : Str} {p2 p3 p4 : Pos} {k : Nat} (hg : Gl X "isinstance") (hm : X.mg "isinstance" = none) (hg1 : Gl X y1) (hm1 : X.mg y1 = none) (hv1 : bootBuiltins y1 = some (.type t1.nm)) (hg2 : Gl X y2) (hm2 : X.mg y2 = none) (hv2 : bootBuiltins y2 = some (.type t2.nm))
    (ha : PP X cl W a A) (hn1 : y1 ≠ "__name__" := by decide) (hd1 : (y1 == ("__debug__" : Str)) = false := by decide) (hn2 : y2 ≠ "__name__" := by decide) (hd2 : (y2 == ("__debug__" : Str)) = false := by decide)
    (he : starEach [a, .Tuple [.Name y1 p2, .Name y2 p3] k p4] X.env = (false, eval a X.env) :: starEach [.Tuple [.Name y1 p2, .Name y2 p3] k p4] X.env := by rfl) (hpl : (backTo pos (starEach [.Tuple [.Name y1 p2, .Name y2 p3] k p4] X.env)).any (·.1) = false := by rfl) :
    PP X cl W (.Call (.Name "isinstance" p) [a, .Tuple [.Name y1 p2, .Name y2 p3] k p4] [] pos) (c1 (isiTD [t1, t2]) A) :=
  PE.imp (pe_callB call_isiT hg hm boot_isinstance (pa_cons ha (pa_cons (pe_tup (pa_cons (pe_bltn (v := .ty t1.nm) hg1 hm1 hv1 rfl hn1 hd1) (pa_cons (pe_bltn (v := .ty t2.nm) hg2 hm2 hv2 rfl hn2 hd2) pa_nil))) pa_nil) he) (by decide) (by decide) he hpl) fun σ H Q ⟨F, e, st, h⟩ => go1E st h fun d F1 H1 v x1 st1 r1 h1 => by
    refine ⟨by show 2 ≤ sizeLine; decide, fun tq nt => ?_⟩
    have w := Ext.add st1.sub nt (.tup [.ty t1.nm, .ty t2.nm])
    exact ⟨v, tq, [.ty t1.nm, .ty t2.nm], .type (tyNm d), [.type t1.nm, .type t2.nm], isiAny [t1, t2] d, rfl, upd_same, .cons (.ty _) (.cons (.ty _) .nil), tyx w.sub (r1.same w.f w.h), kit_any d [t1, t2], h1 _ _ _ w (.bl _)⟩
end

/-! ### defs of one's own -/
/-- a def's promise by its function -/
def spP (K : PySem.W.Frag) (cl : Nat → Value) (m : List D → Res D) : Sp := fun vs H Q E => ∃ F ds, Same F H ∧ RdL K F ds vs ∧ (match m ds with
  | .ok d => d.solid = true ∧ ∀ F' H' v, Ext F H F' H' → Rd K F' d v → Q v H'
  | .exc c => ∀ F' H', Ext F H F' H' → E (cl c) none H'
  | .bad => False)
structure Fm (P : Program) (w : World) (K : PySem.W.Frag) (mg : Str → Option Value) (base : Heap) (cl : Nat → Value) (k : Nat) (x : Str) (st : Stmt) (ps : List Str) (m : List D → Res D) : Prop where
  ex : ∃ (f : Addr) (fd : FuncData), mg x = some (.ref f) ∧ Fun K x x st f fd ∧ Binds K fd ps [] ∧ FnOk P w K mg base (L2.CX P w) k f fd ps (spP K cl m)
theorem Fm.mono {P : Program} {w : World} {K : PySem.W.Frag} {mg : Str → Option Value} {base : Heap} {cl : Nat → Value} {j k : Nat} {x : Str} {st : Stmt} {ps : List Str} {m : List D → Res D} (F : Fm P w K mg base cl j x st ps m) (h : j ≤ k) : Fm P w K mg base cl k x st ps m :=
  let ⟨f, fd, a, b, c, d⟩ := F.ex
  ⟨f, fd, a, b, c, d.mono h⟩
/-- m as far as it goes is n -/
def Le (n m : List D → Res D) : Prop := ∀ ds, n ds ≠ .bad → m ds = n ds
theorem Fm.le {P : Program} {w : World} {K : PySem.W.Frag} {mg : Str → Option Value} {base : Heap} {cl : Nat → Value} {k : Nat} {x : Str} {st : Stmt} {ps : List Str} {n m : List D → Res D} (F : Fm P w K mg base cl k x st ps m) (h : Le n m) : Fm P w K mg base cl k x st ps n :=
  let ⟨f, fd, a, b, c, d⟩ := F.ex
  ⟨f, fd, a, b, c, d.imp fun vs H Q E ⟨Fr, ds, s, r, q⟩ => ⟨Fr, ds, s, r, by
    cases z : n ds with
    | bad => rw [z] at q; exact q.elim
    | ok d => rw [h ds (by rw [z]; exact fun c => nomatch c), z]; rw [z] at q; exact q
    | exc c => rw [h ds (by rw [z]; exact fun c => nomatch c), z]; rw [z] at q; exact q⟩⟩
def cCall (m : List D → Res D) (L : CA) : CE := fun e => (L e).bind m
section
variable {X : Cx} {cl : Nat → Value} {W : WX} {a b : Expr} {es : List Expr} {L : CA} {pos p : Pos} {x : Str} {k : Nat} {st : Stmt} {ps : List Str} {m : List D → Res D}
theorem sp_go {σ : St} {F H : Hp} {Q : VK} {l : List D} {vs : List V} (sm : Same F H) (r : RdL X.K F l vs) (h : PostE X.K cl W F H σ Q (m l)) (hs : ∀ d, m l = .ok d → d.solid = true) : spP X.K cl m vs H Q (WE W σ) := by
  refine ⟨F, l, sm, r, ?_⟩
  cases q : m l with
  | ok d => rw [q] at h; exact ⟨hs d q, fun F' H' v x r => h F' H' v x (.of r)⟩
  | exc c => rw [q] at h; exact h
  | bad => rw [q] at h; exact h
/-- results of defs are not borrowed -/
def Solid (m : List D → Res D) : Prop := ∀ l d, m l = .ok d → d.solid = true
theorem pp_call (G : Fm X.prog X.w X.K X.mg X.base cl k x st ps m) (hs : Solid m) (hr : Room k X.A) (tk : Takes X W) (hg : Gl X x) (ha : PPA X cl W (a :: es) L) (hdb : (x == ("__debug__" : Str)) = false := by decide)
    (he : starEach (a :: es) X.env = (false, eval a X.env) :: starEach es X.env := by rfl) (hpl : (backTo pos (starEach es X.env)).any (·.1) = false := by rfl) : PP X cl W (.Call (.Name x p) (a :: es) [] pos) (cCall m L) := by
  obtain ⟨f, fd, hm, F, hb, ok⟩ := G.ex
  exact PE.imp (pe_callS ok hr hg hm F.kp hb (fun σ => passAt tk σ) ha hdb he hpl) fun σ H Q ⟨F, e, stt, h⟩ => goAE stt h fun l F1 H1 vs x1 st1 r1 h1 => sp_go st1.sub r1 h1 (hs l)
end
end M
namespace M
open PySem PySem.Spec PyProof.Rows L2

/-! ### what is walked -/
theorem RdL.get' {K : PySem.W.Frag} {F : Hp} : ∀ {l : List D} {vs : List V} {i : Nat} {v : V}, RdL K F l vs → vs[i]? = some v → ∃ d, l[i]? = some d ∧ Rd K F d v
  | _, _, _, _, .nil, e => by simp at e
  | _, _, 0, _, .cons r _, e => by simp at e; subst e; exact ⟨_, rfl, r⟩
  | _, _, i + 1, _, .cons _ h, e => by
    obtain ⟨v, a, b⟩ := RdL.get' (i := i) h (by simpa using e)
    exact ⟨v, by simpa using a, b⟩
def Walks (K : PySem.W.Frag) (J : It) (l : List D) (F : Hp) : Prop := ∀ F' H', Same F F' → Same F' H' →
  (∀ i, i < l.length → J.go i H') ∧ (∀ i, l.length ≤ i → J.stop i H') ∧ ∀ i x H'', i < l.length → J.yld i H' x H'' → ∃ d F'', l[i]? = some d ∧ Ext F' H' F'' H'' ∧ Rd K F'' d x
def PostI (K : PySem.W.Frag) (cl : Nat → Value) (W : WX) (F H : Hp) (σ : St) (R : It → Hp → Prop) : Res (List D) → Prop
  | .ok l => ∀ J F' H', Ext F H F' H' → Walks K J l F' → R J H'
  | .exc c => ∀ F' H', Ext F H F' H' → W (cl c) none σ H'
  | .bad => False
def PPI (X : Cx) (cl : Nat → Value) (W : WX) (tg iter : Expr) (A : CA) : Prop := PI X tg iter (fun σ H R => ∃ F e, Stt X.K F e σ H ∧ PostI X.K cl W F H σ R (A e))
theorem PI.imp {X : Cx} {tg iter : Expr} {t t' : TI} (h : PI X tg iter t) (i : ∀ σ H R, t' σ H R → t σ H R) : PI X tg iter t' := ⟨fun pins s σ H R I q => h.run pins s σ H R I (i σ H R q)⟩
def iA (A : CE) : CA := fun e => (A e).bind fun d => match d with
  | .tup l => .ok l
  | .lst l => .ok l
  | _ => .bad
theorem walks_list {K : PySem.W.Frag} {F : Hp} {a : Addr} {vs : List V} {l : List D} (h : F a = some (.lst vs)) (r : RdL K F l vs) : Walks K (Itl K a) l F := fun F' H' s1 s2 => by
  have q : SqL K H' a vs := .inl (.inl (s2 _ _ (s1 _ _ h)))
  refine ⟨fun i hi => ?_, fun i hi => ⟨vs, q, by rw [← r.length]; exact hi⟩, fun i x H'' hi y => ?_⟩
  · obtain ⟨v, e, _⟩ := r.get (i := i) (d := l[i]) (by simp [hi])
    exact ⟨vs, v, q, e⟩
  · obtain ⟨rfl, y⟩ := y
    obtain ⟨d, e1, e2⟩ := r.get' (y vs q)
    exact ⟨d, F', e1, Ext.refl s2, e2.same s1⟩
theorem walks_tup {K : PySem.W.Frag} {F : Hp} {a : Addr} {vs : List V} {l : List D} (h : SqT K F a vs) (r : RdL K F l vs) : Walks K (Itt K a) l F := fun F' H' s1 s2 => by
  have q : SqT K H' a vs := SqT.same s2 (SqT.same s1 h)
  refine ⟨fun i hi => ?_, fun i hi => ⟨vs, q, by rw [← r.length]; exact hi⟩, fun i x H'' hi y => ?_⟩
  · obtain ⟨v, e, _⟩ := r.get (i := i) (d := l[i]) (by simp [hi])
    exact ⟨vs, v, q, e⟩
  · obtain ⟨rfl, y⟩ := y
    obtain ⟨d, e1, e2⟩ := r.get' (y vs q)
    exact ⟨d, F', e1, Ext.refl s2, e2.same s1⟩
def rngL : Nat → Int → List D
  | 0, _ => []
  | n + 1, i => .int i :: rngL n (i + 1)
theorem rngL_len : ∀ (n : Nat) (i : Int), (rngL n i).length = n
  | 0, _ => rfl
  | n + 1, i => by simp [rngL, rngL_len n (i + 1)]
theorem rngL_get : ∀ (n : Nat) (lo : Int) (i : Nat), i < n → (rngL n lo)[i]? = some (.int (lo + i))
  | 0, _, _, h => by omega
  | n + 1, lo, 0, _ => by simp [rngL]
  | n + 1, lo, i + 1, h => by
    rw [rngL, List.getElem?_cons_succ, rngL_get n (lo + 1) i (by omega)]
    congr 2; omega
theorem walks_rng {K : PySem.W.Frag} {F : Hp} (lo : Int) (n : Nat) : Walks K (Itr lo n) (rngL n lo) F := fun F' H' s1 s2 => by
  refine ⟨fun i hi => by rw [rngL_len] at hi; exact hi, fun i hi => by rw [rngL_len] at hi; exact hi, fun i x H'' hi y => ?_⟩
  obtain ⟨rfl, rfl⟩ := y
  rw [rngL_len] at hi
  exact ⟨_, F', rngL_get n lo i hi, Ext.refl s2, .int _⟩
section
variable {X : Cx} {cl : Nat → Value} {W : WX} {tg a b : Expr} {A B : CE}
theorem pi_any {l : Expr} {tl : TE} (hl : PE X l tl) : PI X tg l (fun σ H R => tl σ H fun x H1 => ∃ a, x = .ref a ∧ (((∃ xs, SqL X.K H1 a xs) ∧ R (Itl X.K a) H1) ∨ ((∃ xs, SqT X.K H1 a xs) ∧ R (Itt X.K a) H1))) := by
  refine ⟨fun pins s σ H R I h => ?_⟩
  refine thn (hl.run pins s σ H _ I h) fun v s1 ⟨x, H1, I1, r1, q1⟩ => ?_
  obtain ⟨a, e, q1⟩ := q1
  subst e
  cases r1
  rcases q1 with ⟨⟨xs, hq⟩, q⟩ | ⟨⟨xs, hq⟩, q⟩
  · obtain ⟨its, rv, p, hz⟩ := I1.list hq
    refine wpAny_pyIter_list p.isList ?_
    refine ⟨s1.heap.objs.size, [s1.heap.objs.size], _, _, H1, rfl, I1.kept (t' := s1.toks) fun b o e => Heap.get?_push_of_some _ e, turn_list a _, ⟨_, Heap.get?_push_size _ rfl, rfl, rfl⟩, fun b hb => ?_, q⟩
    have e : b = s1.heap.objs.size := by simpa using hb
    subst e
    exact I1.fpOk (Nat.le_refl _) (I1.hok.fresh (Nat.le_refl _))
  · obtain ⟨its, rv, p, hz⟩ := I1.tuple hq
    refine wpAny_pyIter_tuple (show s1.heap.IsTuple a its.toArray from p) ?_
    refine ⟨s1.heap.objs.size, [s1.heap.objs.size], _, _, H1, rfl, I1.kept (t' := s1.toks) fun b o e => Heap.get?_push_of_some _ e, turn_tuple a _, ⟨_, Heap.get?_push_size _ rfl, rfl, rfl⟩, fun b hb => ?_, q⟩
    have e : b = s1.heap.objs.size := by simpa using hb
    subst e
    exact I1.fpOk (Nat.le_refl _) (I1.hok.fresh (Nat.le_refl _))
theorem ppi_seq (ha : PP X cl W a A) : PPI X cl W tg a (iA A) := PI.imp (pi_any ha) fun σ H R ⟨F, e, st, h⟩ => by
  refine ⟨F, e, st, ?_⟩
  unfold iA at h
  cases q : A e with
  | exc c => rw [q] at h; exact h
  | bad => rw [q] at h; exact h
  | ok d =>
    rw [q] at h
    intro F' H' v x r
    cases d with
    | tup l => cases r with | tup h1 r1 => exact ⟨_, rfl, .inr ⟨⟨_, SqT.same x.sub h1⟩, h _ F' H' x (walks_tup h1 r1)⟩⟩
    | lst l => cases r with | lst h1 r1 => exact ⟨_, rfl, .inl ⟨⟨_, .inl (.inl (x.sub _ _ h1))⟩, h _ F' H' x (walks_list h1 r1)⟩⟩
    | _ => exact h.elim
def rngOk (i : Int) : Bool := match i with
  | .ofNat n => Nat.ble n 1000000
  | .negSucc n => Nat.ble n 1000000
theorem rngOk_ok {i : Int} (h : rngOk i = true) : -(2 ^ 62) ≤ i ∧ i < 2 ^ 62 := by
  cases i with
  | ofNat n => have := Nat.le_of_ble_eq_true (show Nat.ble n 1000000 = true from h); simp only [Int.ofNat_eq_natCast]; constructor <;> omega
  | negSucc n => have := Nat.le_of_ble_eq_true (show Nat.ble n 1000000 = true from h); constructor <;> omega
def rng1 (l : List D) : Option (List D) := match l with
  | [d] => (match d with | .int j => (match rngOk j with | true => some (rngL j.toNat 0) | false => none) | _ => none)
  | _ => none
def rng2 (l : List D) : Option (List D) := match l with
  | [d, d2] => (match d with | .int i => (match d2 with | .int j => (match rngOk i with | true => (match rngOk j with | true => some (rngL (j - i).toNat i) | false => none) | false => none) | _ => none) | _ => none)
  | _ => none
def iR (f : List D → Option (List D)) (L : CA) : CA := fun e => (L e).bind fun l => ofO (f l)
variable {p pos : Pos} {L : CA}
theorem goI {f : List D → Option (List D)} {R : List V → Hp → Prop} {R' : It → Hp → Prop} {σ : St} {F H : Hp} {e : En} (st : Stt X.K F e σ H) (h : PostI X.K cl W F H σ R' (iR f L e))
    (k : ∀ l r F' H' vs, f l = some r → Ext F H F' H' → RdL X.K F' l vs → (∀ J, Walks X.K J r F' → R' J H') → R vs H') : ta X.K cl W L σ H R := by
  refine ⟨F, e, st, ?_⟩
  unfold iR at h
  cases q : L e with
  | exc c => rw [q] at h; exact h
  | bad => rw [q] at h; exact h
  | ok l =>
    rw [q] at h
    intro F' H' vs x r
    cases q2 : f l with
    | some z =>
      have h' : PostI X.K cl W F H σ R' (ofO (f l)) := h
      rw [q2] at h'
      exact k l z F' H' vs q2 x r fun J w => h' J F' H' x w
    | none =>
      have h' : PostI X.K cl W F H σ R' (ofO (f l)) := h
      rw [q2] at h'; exact h'.elim
theorem ppi_rng1 (hg : Gl X "range") (hm : X.mg "range" = none) (ha : PPA X cl W [a] L) (hs : starEach [a] X.env = [(false, eval a X.env)] := by rfl) : PPI X cl W tg (.Call (.Name "range" p) [a] [] pos) (iR rng1 L) :=
  PI.imp (pi_range1 hg hm ha hs) fun σ H R ⟨F, e, st, h⟩ => goI st h fun l r F' H' vs e1 x rd k => by
    unfold rng1 at e1
    split at e1
    · split at e1
      · rename_i j
        cases z : rngOk j with
        | false => rw [z] at e1; cases e1
        | true =>
          rw [z] at e1; cases e1
          cases rd with
          | cons r1 r2 => cases r1; cases r2; exact ⟨j, rfl, (rngOk_ok z).1, (rngOk_ok z).2, k _ (walks_rng 0 _)⟩
      · cases e1
    · cases e1
theorem ppi_rng2 (hg : Gl X "range") (hm : X.mg "range" = none) (ha : PPA X cl W [a, b] L) (hs : starEach [a, b] X.env = [(false, eval a X.env), (false, eval b X.env)] := by rfl) (hs2 : starEach [b] X.env = [(false, eval b X.env)] := by rfl) : PPI X cl W tg (.Call (.Name "range" p) [a, b] [] pos) (iR rng2 L) :=
  PI.imp (pi_range2 hg hm ha hs hs2) fun σ H R ⟨F, e, st, h⟩ => goI st h fun l r F' H' vs e1 x rd k => by
    unfold rng2 at e1
    split at e1
    · split at e1
      · split at e1
        · rename_i _ _ i _ j
          cases z : rngOk i with
          | false => rw [z] at e1; cases e1
          | true =>
            rw [z] at e1
            cases z2 : rngOk j with
            | false => rw [z2] at e1; cases e1
            | true =>
              rw [z2] at e1; cases e1
              cases rd with
              | cons r1 r2 => cases r2 with | cons r2 r3 => cases r1; cases r2; cases r3; exact ⟨i, j, rfl, ⟨(rngOk_ok z).1, (rngOk_ok z).2, (rngOk_ok z2).1, (rngOk_ok z2).2⟩, k _ (walks_rng i _)⟩
        · cases e1
      · cases e1
    · cases e1
def zipL : List D → List D → List D
  | [], _ => []
  | x :: l, k => (match k with | [] => [] | y :: r => .tup [x, y] :: zipL l r)
def zipD (l : List D) : Option (List D) := match l with
  | [d, d2] => (match d with
    | .lst a => (match d2 with | .lst b => some (zipL a b) | _ => none)
    | .tup a => (match d2 with | .tup b => some (zipL a b) | _ => none)
    | _ => none)
  | _ => none
theorem zipL_len : ∀ (l k : List D), (zipL l k).length = min l.length k.length
  | [], _ => by simp [zipL]
  | x :: l, [] => by simp [zipL]
  | x :: l, y :: r => by simp only [zipL, List.length_cons, zipL_len l r]; omega
theorem zipL_get : ∀ (l k : List D) (i : Nat) (x y : D), l[i]? = some x → k[i]? = some y → (zipL l k)[i]? = some (.tup [x, y])
  | [], _, _, _, _, h, _ => by simp at h
  | x :: l, [], _, _, _, _, h => by simp at h
  | x :: l, y :: r, 0, _, _, h1, h2 => by simp at h1 h2; subst h1; subst h2; simp [zipL]
  | x :: l, y :: r, i + 1, a, b, h1, h2 => by
    rw [zipL, List.getElem?_cons_succ]
    exact zipL_get l r i a b (by simpa using h1) (by simpa using h2)
theorem walks_zip {K : PySem.W.Frag} {F : Hp} {J : It} {l k : List D} {xs ys : List V} (r : RdL K F l xs) (q : RdL K F k ys)
    (hgo : ∀ F' H', Same F F' → Same F' H' → ∀ i x y, xs[i]? = some x → ys[i]? = some y → J.go i H')
    (hst : ∀ F' H', Same F F' → Same F' H' → ∀ i, (xs.length ≤ i ∨ ys.length ≤ i) → J.stop i H')
    (hy : ∀ F' H', Same F F' → Same F' H' → ∀ i v H'', J.yld i H' v H'' → ∃ T x y, v = .ref T ∧ H' T = none ∧ H'' = upd H' T (.tup [x, y]) ∧ xs[i]? = some x ∧ ys[i]? = some y) : Walks K J (zipL l k) F := fun F' H' s1 s2 => by
  refine ⟨fun i hi => ?_, fun i hi => ?_, fun i v H'' hi yl => ?_⟩
  · rw [zipL_len] at hi
    obtain ⟨x, e1, _⟩ := r.get (i := i) (d := l[i]'(by omega)) (by simp)
    obtain ⟨y, e2, _⟩ := q.get (i := i) (d := k[i]'(by omega)) (by simp)
    exact hgo F' H' s1 s2 i x y e1 e2
  · rw [zipL_len, r.length, q.length] at hi
    exact hst F' H' s1 s2 i (by omega)
  · obtain ⟨T, x, y, rfl, nT, rfl, e1, e2⟩ := hy F' H' s1 s2 i v H'' yl
    obtain ⟨dx, a1, a2⟩ := r.get' e1
    obtain ⟨dy, b1, b2⟩ := q.get' e2
    have w := Ext.put s2 nT (.tup [x, y])
    exact ⟨_, _, zipL_get l k i dx dy a1 b1, w, .tup (.of upd_same) (.cons (a2.same (s1.trans w.f)) (.cons (b2.same (s1.trans w.f)) .nil))⟩
theorem ppi_zip {elts : List Expr} {kk : Nat} {tpos : Pos} (hg : Gl X "zip") (hm : X.mg "zip" = none) (ha : PPA X cl W [a, b] L)
    (hs : starEach [a, b] X.env = (false, eval a X.env) :: starEach [b] X.env := by rfl) (hpl : (backTo pos (starEach [b] X.env)).any (·.1) = false := by rfl) : PPI X cl W (.Tuple elts kk tpos) (.Call (.Name "zip" p) [a, b] [] pos) (iR zipD L) :=
  PI.imp (RZ.pi_zipA hg hm ha hs hpl) fun σ H R ⟨F, e, st, h⟩ => goI st h fun l r F' H' vs e1 x rd k => by
    unfold zipD at e1
    split at e1
    · split at e1
      · split at e1
        · cases e1
          cases rd with
          | cons r1 r2 => cases r2 with | cons r2 r3 => cases r3; cases r1 with | lst h1 q1 => cases r2 with | lst h2 q2 =>
            rename_i p1 xs p2 ys
            have a1 : ∀ {F2 H2 : Hp}, Same F' F2 → Same F2 H2 → SqL X.K H2 p1 xs := fun s1 s2 => .inl (.inl (s2 _ _ (s1 _ _ h1)))
            have a2 : ∀ {F2 H2 : Hp}, Same F' F2 → Same F2 H2 → SqL X.K H2 p2 ys := fun s1 s2 => .inl (.inl (s2 _ _ (s1 _ _ h2)))
            refine ⟨p1, p2, xs, ys, rfl, .inl ⟨a1 (Same.refl _) x.sub, a2 (Same.refl _) x.sub, k _ (walks_zip q1 q2 (fun F2 H2 s1 s2 i x y ex ey => ⟨xs, ys, x, y, a1 s1 s2, a2 s1 s2, ex, ey⟩) (fun F2 H2 s1 s2 i hi => ⟨xs, ys, a1 s1 s2, a2 s1 s2, hi⟩) (fun F2 H2 s1 s2 i v H3 yl => ?_))⟩⟩
            obtain ⟨T, x, y, e1, e2, e3, e4, e5⟩ := yl
            exact ⟨T, x, y, e1, e2, e3, e4 _ (a1 s1 s2), e5 _ (a2 s1 s2)⟩
        · cases e1
      · split at e1
        · cases e1
          cases rd with
          | cons r1 r2 => cases r2 with | cons r2 r3 => cases r3; cases r1 with | tup h1 q1 => cases r2 with | tup h2 q2 =>
            rename_i p1 xs p2 ys
            have a1 : ∀ {F2 H2 : Hp}, Same F' F2 → Same F2 H2 → SqT X.K H2 p1 xs := fun s1 s2 => SqT.same s2 (SqT.same s1 h1)
            have a2 : ∀ {F2 H2 : Hp}, Same F' F2 → Same F2 H2 → SqT X.K H2 p2 ys := fun s1 s2 => SqT.same s2 (SqT.same s1 h2)
            refine ⟨p1, p2, xs, ys, rfl, .inr ⟨a1 (Same.refl _) x.sub, a2 (Same.refl _) x.sub, k _ (walks_zip q1 q2 (fun F2 H2 s1 s2 i x y ex ey => ⟨xs, ys, x, y, a1 s1 s2, a2 s1 s2, ex, ey⟩) (fun F2 H2 s1 s2 i hi => ⟨xs, ys, a1 s1 s2, a2 s1 s2, hi⟩) (fun F2 H2 s1 s2 i v H3 yl => ?_))⟩⟩
            obtain ⟨T, x, y, e1, e2, e3, e4, e5⟩ := yl
            exact ⟨T, x, y, e1, e2, e3, e4 _ (a1 s1 s2), e5 _ (a2 s1 s2)⟩
        · cases e1
      · cases e1
    · cases e1
end

/-! ### targets -/
abbrev CG := D → En → Option En
/-- own lists stay where they were -/
def OwnKeep (e : En) (σ : St) (e' : En) (σ' : St) : Prop := ∀ (i : Nat) (l : List D), e'[i]? = some (.own l) → e[i]? = some (.own l) ∧ σ'[i]? = σ[i]?
theorem OwnKeep.refl (e : En) (σ : St) : OwnKeep e σ e σ := fun _ _ h => ⟨h, rfl⟩
theorem OwnKeep.trans {e e1 e2 : En} {σ σ1 σ2 : St} (a : OwnKeep e σ e1 σ1) (b : OwnKeep e1 σ1 e2 σ2) : OwnKeep e σ e2 σ2 := fun i l h => by
  obtain ⟨h1, h2⟩ := b i l h
  obtain ⟨h3, h4⟩ := a i l h1
  exact ⟨h3, h2.trans h4⟩
def tg (K : PySem.W.Frag) (G : CG) : TG := fun v σ H Q => ∃ F e d e', Stt K F e σ H ∧ Rd K F d v ∧ G d e = some e' ∧ ∀ σ', Stt K F e' σ' H → OwnKeep e σ e' σ' → Q σ' H
def PPG (X : Cx) (e : Expr) (G : CG) : Prop := PG X e (tg X.K G)
theorem PG.imp {X : Cx} {e : Expr} {t t' : TG} (h : PG X e t) (i : ∀ v σ H Q, t' v σ H Q → t v σ H Q) : PG X e t' := ⟨fun pins s σ H v u Q I r q => h.run pins s σ H v u Q I r (i v σ H Q q)⟩
def gN (i : Nat) : CG := fun d e => some (e.set i (.dat d))
theorem Stt.set {K : PySem.W.Frag} {F : Hp} {e : En} {σ : St} {H : Hp} {i : Nat} {d : D} {v : V} (st : Stt K F e σ H) (r : Rd K F d v) : Stt K F (e.set i (.dat d)) (σ.set i (some v)) H ∧ OwnKeep e σ (e.set i (.dat d)) (σ.set i (some v)) := by
  have ok : OwnKeep e σ (e.set i (.dat d)) (σ.set i (some v)) := fun j l h => by
    by_cases hj : i = j
    · subst hj
      by_cases hl : i < e.length
      · rw [List.getElem?_set_self hl] at h; cases h
      · rw [List.getElem?_eq_none (by simpa using hl)] at h; cases h
    · rw [List.getElem?_set_ne hj] at h
      exact ⟨h, by rw [List.getElem?_set_ne hj]⟩
  refine ⟨⟨st.sub, by simp [st.len], fun j s h => ?_, fun a b l l' p h1 h2 h3 h4 => ?_⟩, ok⟩
  · by_cases hj : i = j
    · subst hj
      by_cases hl : i < e.length
      · rw [List.getElem?_set_self hl] at h
        cases h
        exact ⟨v, by rw [List.getElem?_set_self (by rw [← st.len]; exact hl)], r⟩
      · rw [List.getElem?_eq_none (by simpa using hl)] at h; cases h
    · rw [List.getElem?_set_ne hj] at h
      rw [List.getElem?_set_ne hj]
      exact st.at_ j s h
  · obtain ⟨x1, y1⟩ := ok a l h1
    obtain ⟨x2, y2⟩ := ok b l' h2
    exact st.apart a b l l' p x1 x2 (y1 ▸ h3) (y2 ▸ h4)
section
variable {X : Cx}
theorem ppg_name {i : Nat} {x : Str} {pos : Pos} (hN : X.N.Nodup) (hi : X.N[i]? = some x) (hx : Loc X.env.scope x) (hf : X.fn x = true ∨ X.env.scope.names.lookup x = some .local := by first | exact .inl rfl | exact .inr rfl | assumption) : PPG X (.Name x pos) (gN i) :=
  PG.imp (pg_name hN hi hx hf) fun v σ H Q ⟨F, e, d, e', st, r, q, k⟩ => by
    cases q
    obtain ⟨a, b⟩ := st.set (i := i) r
    exact k _ a b
abbrev CGs := List D → En → Option En
def gsN : CGs := fun l e => match l with | [] => some e | _ :: _ => none
def gsC (G : CG) (Gs : CGs) : CGs := fun l e => match l with
  | [] => none
  | d :: r => (match G d e with | some e1 => Gs r e1 | none => none)
def gT (Gs : CGs) : CG := fun d e => match d with
  | .tup l => Gs l e
  | .lst l => Gs l e
  | _ => none
def PPGs (X : Cx) (es : List Expr) (n : Nat) (Gs : CGs) : Prop := PGs X es (fun vs σ H Q => ∃ F e l e', Stt X.K F e σ H ∧ RdL X.K F l vs ∧ Gs l e = some e' ∧ ∀ σ', Stt X.K F e' σ' H → OwnKeep e σ e' σ' → Q σ' H) ∧ ∀ l e e', Gs l e = some e' → l.length = n
theorem PGs.imp {X : Cx} {es : List Expr} {t t' : TGs} (h : PGs X es t) (i : ∀ v σ H Q, t' v σ H Q → t v σ H Q) : PGs X es t' := ⟨fun pins s σ H v u Q I r q => h.run pins s σ H v u Q I r (i v σ H Q q)⟩
theorem ppgs_nil : PPGs X [] 0 gsN := by
  refine ⟨PGs.imp pgs_nil fun vs σ H Q ⟨F, e, l, e', st, r, q, k⟩ => ?_, fun l e e' h => ?_⟩
  · cases r with
    | nil => cases q; exact ⟨rfl, k _ st (OwnKeep.refl _ _)⟩
    | cons _ _ => cases q
  · cases l with
    | nil => rfl
    | cons _ _ => cases h
theorem ppgs_cons {e : Expr} {es : List Expr} {G : CG} {Gs : CGs} {n : Nat} (h1 : PPG X e G) (h2 : PPGs X es n Gs) (hs : (assignEach (e :: es) X.env).map (·.2) = assign e X.env :: (assignEach es X.env).map (·.2) := by rfl) : PPGs X (e :: es) (n + 1) (gsC G Gs) := by
  refine ⟨PGs.imp (pgs_cons h1 h2.1 hs) fun vs σ H Q ⟨F, ev, l, e', st, r, q, k⟩ => ?_, fun l ev e' h => ?_⟩
  · cases r with
    | nil => cases q
    | @cons d l v vs r rr =>
      simp only [gsC] at q
      cases z : G d ev with
      | none => rw [z] at q; cases q
      | some e1 =>
        rw [z] at q
        exact ⟨v, vs, rfl, F, ev, d, e1, st, r, z, fun σ1 st1 k1 => ⟨F, e1, l, e', st1, rr, q, fun σ2 st2 k2 => k σ2 st2 (k1.trans k2)⟩⟩
  · cases l with
    | nil => cases h
    | cons d r =>
      simp only [gsC] at h
      cases z : G d ev with
      | none => rw [z] at h; cases h
      | some e1 => rw [z] at h; rw [List.length_cons, h2.2 _ _ _ h]
theorem ppg_tup {es : List Expr} {k : Nat} {pos : Pos} {Gs : CGs} {n : Nat} (hc : X.calm = true) (h : PPGs X es n Gs) (hn : (assignEach es X.env).length = n := by rfl) (hst : (assignEach es X.env).findIdx? (·.1) = none := by rfl) : PPG X (.Tuple es k pos) (gT Gs) :=
  ⟨fun pins s σ H v u Q I rv ⟨F, e, d, e', st, r, q, k⟩ => by
    cases d with
    | tup l =>
      cases r with
      | tup h1 r1 => exact (pg_tup hc h.1 hn hst).run pins s σ H _ u Q I rv ⟨_, _, rfl, SqT.same st.sub h1, by rw [← r1.length]; exact h.2 l e e' q, F, e, l, e', st, r1, q, k⟩
    | lst l =>
      cases r with
      | lst h1 r1 => exact (pg_lst hc h.1 hn hst).run pins s σ H _ u Q I rv ⟨_, _, rfl, .inl (.inl (st.sub _ _ h1)), by rw [← r1.length]; exact h.2 l e e' q, F, e, l, e', st, r1, q, k⟩
    | _ => cases q⟩
end
end M
namespace M
open PySem PySem.Spec PyProof.Rows L2

/-! ### list comprehensions -/
def wipeE (e : En) : List Nat → En
  | [] => e
  | v :: vs => (wipeE e vs).set v .no
theorem Stt.unset {K : PySem.W.Frag} {F : Hp} {e : En} {σ : St} {H : Hp} {i : Nat} (st : Stt K F e σ H) : Stt K F (e.set i .no) (σ.set i none) H ∧ OwnKeep e σ (e.set i .no) (σ.set i none) := by
  have ok : OwnKeep e σ (e.set i .no) (σ.set i none) := fun j l h => by
    by_cases hj : i = j
    · subst hj
      by_cases hl : i < e.length
      · rw [List.getElem?_set_self hl] at h; cases h
      · rw [List.getElem?_eq_none (by simpa using hl)] at h; cases h
    · rw [List.getElem?_set_ne hj] at h
      exact ⟨h, by rw [List.getElem?_set_ne hj]⟩
  refine ⟨⟨st.sub, by simp [st.len], fun j s h => ?_, fun a b l l' p h1 h2 h3 h4 => ?_⟩, ok⟩
  · by_cases hj : i = j
    · subst hj
      by_cases hl : i < e.length
      · rw [List.getElem?_set_self hl] at h
        cases h
        trivial
      · rw [List.getElem?_eq_none (by simpa using hl)] at h; cases h
    · rw [List.getElem?_set_ne hj] at h
      rw [List.getElem?_set_ne hj]
      exact st.at_ j s h
  · obtain ⟨x1, y1⟩ := ok a l h1
    obtain ⟨x2, y2⟩ := ok b l' h2
    exact st.apart a b l l' p x1 x2 (y1 ▸ h3) (y2 ▸ h4)
theorem Stt.wipe {K : PySem.W.Frag} {F : Hp} {e : En} {σ : St} {H : Hp} (st : Stt K F e σ H) : ∀ vs : List Nat, Stt K F (wipeE e vs) (L2.wipe σ vs) H ∧ OwnKeep e σ (wipeE e vs) (L2.wipe σ vs)
  | [] => ⟨st, OwnKeep.refl _ _⟩
  | v :: vs => by
    obtain ⟨a, b⟩ := Stt.wipe st vs
    obtain ⟨c, d⟩ := Stt.unset (i := v) a
    exact ⟨c, b.trans d⟩
def lcL (G : CG) (T : CT) (E : CE) (e : En) : List D → Option (List D)
  | [] => some []
  | d :: l => match G d e with
    | none => none
    | some e1 => match T e1 with
      | .ok b => (match b with
        | true => (match E e1 with
          | .ok x => (match x.solid with
            | true => (match lcL G T E e l with
              | some r => some (x :: r)
              | none => none)
            | false => none)
          | _ => none)
        | false => lcL G T E e l)
      | _ => none
def nLc (A : CA) (vs : List Nat) (G : CG) (T : CT) (E : CE) : CA := fun e => (A e).bind fun l => match lcL G T E (wipeE e vs) l with
  | some r => (match Nat.ble l.length 1000000 with | true => .ok r | false => .bad)
  | none => .bad
def tYesC : CT := fun _ => .ok true
/-- a target that stores in given slots alone -/
def Within (G : CG) (vs : List Nat) : Prop := ∀ d e e', G d e = some e' → wipeE e' vs = wipeE e vs ∧ e'.length = e.length
def PPTs (X : Cx) (cl : Nat → Value) (W : WX) (ifs : List Expr) (T : CT) : Prop := PTs X ifs (tt X.K cl W T)
theorem PTs.imp {X : Cx} {e : List Expr} {t t' : TT} (h : PTs X e t) (i : ∀ σ H Q, t' σ H Q → t σ H Q) : PTs X e t' := ⟨fun pins s σ H Q I q => h.run pins s σ H Q I (i σ H Q q)⟩
theorem ppts_nil {X : Cx} {cl : Nat → Value} {W : WX} : PPTs X cl W [] tYesC := PTs.imp pts_nil fun σ H Q ⟨F, e, st, h⟩ => PostT.at h st.sub
theorem ppts_one {X : Cx} {cl : Nat → Value} {W : WX} {c : Expr} {T : CT} (h : PPT X cl W c T) : PPTs X cl W [c] T := pts_one h
/-- in a comprehension's block nothing is raised -/
abbrev W0 : WX := fun _ _ _ _ => False

/-- targets that store in given slots, on both sides -/
def PPGw (X : Cx) (vs : List Nat) (e : Expr) (G : CG) : Prop := PG X e (fun v σ H Q => ∃ F en d e', Stt X.K F en σ H ∧ Rd X.K F d v ∧ G d en = some e' ∧ ∀ σ', Stt X.K F e' σ' H → OwnKeep en σ e' σ' → L2.wipe σ' vs = L2.wipe σ vs → Q σ' H)
theorem wipe_set (σ : St) {i : Nat} {x : Option V} : ∀ {vs : List Nat}, i ∈ vs → L2.wipe (σ.set i x) vs = L2.wipe σ vs := by
  intro vs
  induction vs with
  | nil => intro h; cases h
  | cons v vs ih =>
    intro h
    show (L2.wipe (σ.set i x) vs).set v none = (L2.wipe σ vs).set v none
    by_cases hm : i ∈ vs
    · rw [ih hm]
    · have hv : i = v := by
        rcases List.mem_cons.mp h with e | e
        · exact e
        · exact absurd e hm
      subst hv
      have gen : ∀ (vs : List Nat), i ∉ vs → L2.wipe (σ.set i x) vs = (L2.wipe σ vs).set i x := by
        intro vs
        induction vs with
        | nil => intro _; rfl
        | cons w ws ih2 =>
          intro hn
          simp only [List.mem_cons, not_or] at hn
          show (L2.wipe (σ.set i x) ws).set w none = ((L2.wipe σ ws).set w none).set i x
          rw [ih2 hn.2, List.set_comm _ _ hn.1]
      rw [gen vs hm, List.set_set]
theorem ppgw_name {X : Cx} {vs : List Nat} {i : Nat} {x : Str} {pos : Pos} (hN : X.N.Nodup) (hi : X.N[i]? = some x) (hx : Loc X.env.scope x) (hm : i ∈ vs) (hf : X.fn x = true ∨ X.env.scope.names.lookup x = some .local := by first | exact .inl rfl | exact .inr rfl | assumption) : PPGw X vs (.Name x pos) (gN i) :=
  PG.imp (pg_name hN hi hx hf) fun v σ H Q ⟨F, e, d, e', st, r, q, k⟩ => by
    cases q
    obtain ⟨a, b⟩ := st.set (i := i) r
    exact k _ a b (wipe_set σ hm)
theorem wipe_sub (σ : St) (vs : List Nat) : ∀ us : List Nat, (∀ u ∈ us, u ∈ vs) → L2.wipe (L2.wipe σ us) vs = L2.wipe σ vs
  | [], _ => rfl
  | u :: us, h => by
    show L2.wipe ((L2.wipe σ us).set u none) vs = _
    rw [wipe_set _ (h u List.mem_cons_self)]
    exact wipe_sub σ vs us fun w hw => h w (List.mem_cons_of_mem _ hw)
theorem wipe_wipe (σ : St) (vs : List Nat) : L2.wipe (L2.wipe σ vs) vs = L2.wipe σ vs := wipe_sub σ vs vs fun _ h => h
def PPGws (X : Cx) (vs : List Nat) (es : List Expr) (n : Nat) (Gs : CGs) : Prop := PGs X es (fun us σ H Q => ∃ F e l e', Stt X.K F e σ H ∧ RdL X.K F l us ∧ Gs l e = some e' ∧ ∀ σ', Stt X.K F e' σ' H → OwnKeep e σ e' σ' → L2.wipe σ' vs = L2.wipe σ vs → Q σ' H) ∧ ∀ l e e', Gs l e = some e' → l.length = n
theorem ppgws_nil {X : Cx} {vs : List Nat} : PPGws X vs [] 0 gsN := by
  refine ⟨PGs.imp pgs_nil fun us σ H Q ⟨F, e, l, e', st, r, q, k⟩ => ?_, fun l e e' h => ?_⟩
  · cases r with
    | nil => cases q; exact ⟨rfl, k _ st (OwnKeep.refl _ _) rfl⟩
    | cons _ _ => cases q
  · cases l with
    | nil => rfl
    | cons _ _ => cases h
theorem ppgws_cons {X : Cx} {vs : List Nat} {e : Expr} {es : List Expr} {G : CG} {Gs : CGs} {n : Nat} (h1 : PPGw X vs e G) (h2 : PPGws X vs es n Gs) (hs : (assignEach (e :: es) X.env).map (·.2) = assign e X.env :: (assignEach es X.env).map (·.2) := by rfl) : PPGws X vs (e :: es) (n + 1) (gsC G Gs) := by
  refine ⟨PGs.imp (pgs_cons h1 h2.1 hs) fun us σ H Q ⟨F, ev, l, e', st, r, q, k⟩ => ?_, fun l ev e' h => ?_⟩
  · cases r with
    | nil => cases q
    | @cons d l v us r rr =>
      simp only [gsC] at q
      cases z : G d ev with
      | none => rw [z] at q; cases q
      | some e1 =>
        rw [z] at q
        exact ⟨v, us, rfl, F, ev, d, e1, st, r, z, fun σ1 st1 k1 w1 => ⟨F, e1, l, e', st1, rr, q, fun σ2 st2 k2 w2 => k σ2 st2 (k1.trans k2) (w2.trans w1)⟩⟩
  · cases l with
    | nil => cases h
    | cons d r =>
      simp only [gsC] at h
      cases z : G d ev with
      | none => rw [z] at h; cases h
      | some e1 => rw [z] at h; rw [List.length_cons, h2.2 _ _ _ h]
theorem ppgw_tup {X : Cx} {vs : List Nat} {es : List Expr} {k : Nat} {pos : Pos} {Gs : CGs} {n : Nat} (hc : X.calm = true) (h : PPGws X vs es n Gs) (hn : (assignEach es X.env).length = n := by rfl) (hst : (assignEach es X.env).findIdx? (·.1) = none := by rfl) : PPGw X vs (.Tuple es k pos) (gT Gs) :=
  ⟨fun pins s σ H v u Q I rv ⟨F, e, d, e', st, r, q, k⟩ => by
    cases d with
    | tup l =>
      cases r with
      | tup h1 r1 => exact (pg_tup hc h.1 hn hst).run pins s σ H _ u Q I rv ⟨_, _, rfl, SqT.same st.sub h1, by rw [← r1.length]; exact h.2 l e e' q, F, e, l, e', st, r1, q, k⟩
    | lst l =>
      cases r with
      | lst h1 r1 => exact (pg_lst hc h.1 hn hst).run pins s σ H _ u Q I rv ⟨_, _, rfl, .inl (.inl (st.sub _ _ h1)), by rw [← r1.length]; exact h.2 l e e' q, F, e, l, e', st, r1, q, k⟩
    | _ => cases q⟩

section
variable {X : Cx} {cl : Nat → Value} {W : WX} {elt tgt iter : Expr} {ifs : List Expr} {scope : Scope} {own : List (Str × Nat)} {pos : Pos} {A : CA} {G : CG} {T : CT} {E : CE}
/-- the state of the walk: what is frozen grows, the new list at D -/
structure LcI (K : PySem.W.Frag) (G : CG) (T : CT) (E : CE) (e : En) (l fin : List D) (F1 H1 : Hp) (D : Addr) (i m : Nat) (H : Hp) : Prop where
  le : m + i = l.length
  ex : ∃ F accd acc r, Same F1 F ∧ Same F H ∧ Same H1 H ∧ (∀ a o, F a = some o → F1 a = some o ∨ H1 a = none) ∧ F D = none ∧ H D = some (.lst acc) ∧ RdL K F accd acc ∧ lcL G T E e (l.drop i) = some r ∧ fin = accd ++ r ∧ acc.length ≤ i
theorem ppn_lc (hc : X.calm = true) (hN : X.N.Nodup) (hi : PPI X cl W tgt iter A) (ok : BlkOk X.N X.env.scope scope own)
    (hg : ∀ (s : Shared) (H : Hp) (C : Addr) (cl' : List (Str × Addr)) (fp : List Addr), PPGw (X.blk s H scope (compEnvC scope cl' C X.env) fp) (own.map (·.2)) tgt G)
    (ht : ∀ (s : Shared) (H : Hp) (C : Addr) (cl' : List (Str × Addr)) (fp : List Addr), PPTs (X.blk s H scope (compEnvC scope cl' C X.env) fp) cl W0 ifs T)
    (he : ∀ (s : Shared) (H : Hp) (C : Addr) (cl' : List (Str × Addr)) (fp : List Addr), PP (X.blk s H scope (compEnvC scope cl' C X.env) fp) cl W0 elt E) (hs : ∀ x, foldedSetIterable iter X.env x = pure x := by intro _; rfl) :
    PPN X cl W (.ListComp elt [⟨tgt, iter, ifs, 0⟩] scope pos) (nLc A (own.map (·.2)) G T E) := by
  refine PE.imp (pe_lc (g := fun v σ H Q => ∃ F en d e', Stt X.K F en σ H ∧ Rd X.K F d v ∧ G d en = some e' ∧ ∀ σ', Stt X.K F e' σ' H → OwnKeep en σ e' σ' → L2.wipe σ' (own.map (·.2)) = L2.wipe σ (own.map (·.2)) → Q σ' H)
    (tt := tt X.K cl W0 T) (te := tp X.K cl W0 E) hc hN hi ok hg ht he hs) fun σ H Q ⟨F, e, st, h⟩ => ?_
  refine ⟨F, e, st, ?_⟩
  unfold nLc at h
  cases qA : A e with
  | exc c => rw [qA] at h; exact h
  | bad => rw [qA] at h; exact h
  | ok l =>
    rw [qA] at h
    simp only [Res.bind] at h
    cases qr : lcL G T E (wipeE e (own.map (·.2))) l with
    | none => rw [qr] at h; exact h.elim
    | some fin =>
      rw [qr] at h
      cases qz : Nat.ble l.length 1000000 with
      | false => simp only [qz] at h; exact h.elim
      | true =>
        simp only [qz] at h
        intro J F1 H1 x1 wk D nD
        have st1 := st.ext x1
        have hline := line_ok qz
        refine ⟨fun i m H => LcI X.K G T E (wipeE e (own.map (·.2))) l fin F1 H1 D i m H, ⟨l.length, ?_⟩, fun i m H2 w => ?_⟩
        · refine ⟨by omega, F1, [], [], fin, Same.refl _, ?_, ?_, fun a o q => .inl q, ?_, upd_same, .nil, by rw [List.drop_zero]; exact qr, rfl, Nat.le_refl _⟩
          · exact (Ext.add x1.sub nD (.lst [])).sub
          · exact (Ext.add x1.sub nD (.lst [])).h
          · exact x1.sub.free nD
        · obtain ⟨le, F2, accd, acc, r, s12, s2, hh, nw, fD, hD, rd, q, efin, hlen⟩ := w
          obtain ⟨w1, w2, w3⟩ := wk F2 H2 s12 s2
          by_cases hi : i < l.length
          · refine .inr ⟨w1 i hi, fun H' => LcI X.K G T E (wipeE e (own.map (·.2))) l fin F1 H1 D (i + 1) (m - 1) H', fun H' w => ⟨m - 1, by omega, w⟩, fun x H3 y => ?_⟩
            obtain ⟨d, F3, ed, x3, rx⟩ := w3 i x H3 hi y
            have el : l.drop i = d :: l.drop (i + 1) := by
              rw [List.drop_eq_getElem_cons hi]
              have : l[i] = d := by rw [List.getElem?_eq_getElem hi] at ed; exact Option.some.inj ed
              rw [this]
            rw [el] at q
            simp only [lcL] at q
            -- the state ahead of the turn
            have x13 : Ext F1 H1 F3 H3 := by
              refine ⟨s12.trans x3.f, hh.trans x3.h, x3.sub, fun a o z => ?_⟩
              rcases x3.new a o z with z | z
              · exact nw a o z
              · exact .inr (hh.free z)
            have nD3 : F3 D = none := by
              cases z : F3 D with
              | none => rfl
              | some o =>
                rcases x3.new D o z with z | z
                · rw [fD] at z; cases z
                · rw [hD] at z; cases z
            have hD3 := x3.h _ _ hD
            have st3 := st1.ext x13
            obtain ⟨st4, _⟩ := st3.wipe (own.map (·.2))
            split at q
            · cases q
            · rename_i e1 qG
              refine ⟨F3, _, d, e1, st4, rx, qG, fun σ' st5 ok5 hw => ⟨by rw [hw, wipe_wipe], F3, e1, st5, ?_⟩⟩
              split at q
              · rename_i b qT
                rw [qT]
                intro F4 H4 x4
                have x14 := x13.trans x4
                have nD4 : F4 D = none := by
                  cases z : F4 D with
                  | none => rfl
                  | some o =>
                    rcases x4.new D o z with z | z
                    · rw [nD3] at z; cases z
                    · rw [hD3] at z; cases z
                have hD4 := x4.h _ _ hD3
                split at q
                · refine iteT ⟨F4, e1, st5.ext x4, ?_⟩
                  split at q
                  · rename_i xv qE
                    rw [qE]
                    intro F5 H5 v x5 rv
                    have x15 := x14.trans x5
                    have nD5 : F5 D = none := by
                      cases z : F5 D with
                      | none => rfl
                      | some o =>
                        rcases x5.new D o z with z | z
                        · rw [nD4] at z; cases z
                        · rw [hD4] at z; cases z
                    have hD5 := x5.h _ _ hD4
                    split at q
                    · rename_i qS
                      split at q
                      · rename_i r' qr'
                        cases q
                        refine ⟨acc, hD5, by omega, ⟨by omega, F5, accd ++ [xv], acc ++ [v], r', x15.f, fun a o z => ?_, fun a o z => ?_, x15.new, nD5, upd_same, (rd.same ((x3.f.trans x4.f).trans x5.f)).append (.cons (rv.rd qS) .nil), qr', by rw [efin, List.append_assoc]; rfl, by simp; omega⟩⟩
                        · have hne : a ≠ D := fun c => by rw [c, nD5] at z; cases z
                          rw [upd_ne hne]; exact x15.sub _ _ z
                        · have hne : a ≠ D := fun c => by rw [c, nD] at z; cases z
                          rw [upd_ne hne]; exact x15.h _ _ z
                      · cases q
                    · cases q
                  · cases q
                · refine iteF ⟨by omega, F4, accd, acc, r, x14.f, x14.sub, x14.h, x14.new, nD4, hD4, rd.same (x3.f.trans x4.f), q, efin, by omega⟩
              · cases q
          · refine .inl ⟨w2 i (by omega), ?_⟩
            have el : l.drop i = [] := List.drop_eq_nil_of_le (by omega)
            rw [el] at q
            cases q
            rw [List.append_nil] at efin
            subst efin
            -- the heap without the new list
            have key : H2 = upd (fun b => if b = D then none else H2 b) D (.lst acc) := by
              funext b
              by_cases hb : b = D
              · subst hb; rw [upd_same, hD]
              · rw [upd_ne hb]; simp [hb]
            rw [key]
            refine h F2 _ D acc ⟨x1.f.trans s12, fun a o z => ?_, fun a o z => ?_, fun a o z => ?_⟩ (by simp) rd (by omega)
            · have hne : a ≠ D := fun c => by rw [c] at z; rw [x1.h _ _ z] at nD; cases nD
              simp only [hne, if_false]; exact hh _ _ (x1.h _ _ z)
            · have hne : a ≠ D := fun c => by rw [c, fD] at z; cases z
              simp only [hne, if_false]; exact s2 _ _ z
            · rcases nw a o z with z | z
              · exact x1.new a o z
              · exact .inr (x1.h.free z)
end
end M
namespace M
open PySem PySem.Spec PyProof.Rows L2

/-! ### statements -/
inductive RS where
  | nx (e : En) | rt (d : D) | bk (e : En) | ct (e : En) | exc (c : Nat) (e : En) | bad
abbrev CS := En → RS
/-- the state in a def's body, entered at F0, H0 -/
structure StS (K : PySem.W.Frag) (F0 H0 F : Hp) (e : En) (σ : St) (H : Hp) : Prop where
  st : Stt K F e σ H
  ext : Ext F0 H0 F H
  own : ∀ (i : Nat) (l : List D) (a : Addr), e[i]? = some (.own l) → σ[i]? = some (some (.ref a)) → H0 a = none
section
variable (K : PySem.W.Frag) (cl : Nat → Value) (W : WX) (F0 H0 : Hp)
def PostS (Fc : Hp) (Dn : Ends) : RS → Prop
  | .nx e => ∀ F σ H, Same Fc F → StS K F0 H0 F e σ H → Dn.nx σ H
  | .rt d => ∀ F H v, Ext F0 H0 F H → Rd K F d v → Dn.rt v H
  | .bk e => ∀ F σ H, Same Fc F → StS K F0 H0 F e σ H → Dn.bk σ H
  | .ct e => ∀ F σ H, Same Fc F → StS K F0 H0 F e σ H → Dn.ct σ H
  | .exc c e => ∀ F σ H, Same Fc F → StS K F0 H0 F e σ H → W (cl c) none σ H
  | .bad => False
def ts (B : CS) : TS := fun Dn σ H => ∃ F e, StS K F0 H0 F e σ H ∧ PostS K cl W F0 H0 F Dn (B e)
theorem PostS.grow {Fc Fd : Hp} (s : Same Fc Fd) {Dn : Ends} : ∀ {r : RS}, PostS K cl W F0 H0 Fc Dn r → PostS K cl W F0 H0 Fd Dn r
  | .nx _, h => fun F σ H x => h F σ H (s.trans x)
  | .rt _, h => h
  | .bk _, h => fun F σ H x => h F σ H (s.trans x)
  | .ct _, h => fun F σ H x => h F σ H (s.trans x)
  | .exc _ _, h => fun F σ H x => h F σ H (s.trans x)
  | .bad, h => h
end
section
variable (X : Cx) (cl : Nat → Value) (W : WX) (F0 H0 : Hp)
def PPS (st : Stmt) (B : CS) : Prop := PS X st (ts X.K cl W F0 H0 B)
def PPSs (st : List Stmt) (B : CS) : Prop := PSs X st (ts X.K cl W F0 H0 B)
end
theorem PS.imp {X : Cx} {e : Stmt} {t t' : TS} (h : PS X e t) (i : ∀ D σ H, t' D σ H → t D σ H) : PS X e t' := ⟨fun pins s σ H D I q => h.run pins s σ H D I (i D σ H q)⟩
theorem PSs.imp {X : Cx} {e : List Stmt} {t t' : TS} (h : PSs X e t) (i : ∀ D σ H, t' D σ H → t D σ H) : PSs X e t' := ⟨fun pins s σ H D I q => h.run pins s σ H D I (i D σ H q)⟩
section
variable {K : PySem.W.Frag} {cl : Nat → Value} {W : WX} {F0 H0 F H F' H' : Hp} {e e' : En} {σ σ' : St}
theorem StS.grow (s : StS K F0 H0 F e σ H) (x : Ext F H F' H') : StS K F0 H0 F' e σ H' := ⟨s.st.ext x, s.ext.trans x, s.own⟩
theorem StS.keep (s : StS K F0 H0 F e σ H) (st : Stt K F e' σ' H) (ok : OwnKeep e σ e' σ') : StS K F0 H0 F e' σ' H := ⟨st, s.ext, fun i l a h1 h2 => by
  obtain ⟨x, y⟩ := ok i l h1
  exact s.own i l a x (y ▸ h2)⟩
def rE (r : Res D) (e : En) (f : D → RS) : RS := match r with | .ok d => f d | .exc c => .exc c e | .bad => .bad
def rT (r : Res Bool) (e : En) (f : Bool → RS) : RS := match r with | .ok d => f d | .exc c => .exc c e | .bad => .bad
def rA (r : Res (List D)) (e : En) (f : List D → RS) : RS := match r with | .ok d => f d | .exc c => .exc c e | .bad => .bad
/-- an expression, then the rest -/
theorem goSE {A : CE} {R : VK} {Dn : Ends} {f : D → RS} (s : StS K F0 H0 F e σ H) (h : PostS K cl W F0 H0 F Dn (rE (A e) e f))
    (k : ∀ d F' H' v, Same F F' → StS K F0 H0 F' e σ H' → RdT K F' H' d v → PostS K cl W F0 H0 F' Dn (f d) → R v H') : tp K cl W A σ H R := by
  refine ⟨F, e, s.st, ?_⟩
  cases q : A e with
  | ok d => rw [q] at h; exact fun F' H' v x r => k d F' H' v x.f (s.grow x) r (PostS.grow (r := f d) _ _ _ _ _ x.f h)
  | exc c => rw [q] at h; exact fun F' H' x => h F' σ H' x.f (s.grow x)
  | bad => rw [q] at h; exact h
theorem goST {A : CT} {R : Bool → Hp → Prop} {Dn : Ends} {f : Bool → RS} (s : StS K F0 H0 F e σ H) (h : PostS K cl W F0 H0 F Dn (rT (A e) e f))
    (k : ∀ b F' H', Same F F' → StS K F0 H0 F' e σ H' → PostS K cl W F0 H0 F' Dn (f b) → R b H') : tt K cl W A σ H R := by
  refine ⟨F, e, s.st, ?_⟩
  cases q : A e with
  | ok d => rw [q] at h; exact fun F' H' x => k d F' H' x.f (s.grow x) (PostS.grow (r := f d) _ _ _ _ _ x.f h)
  | exc c => rw [q] at h; exact fun F' H' x => h F' σ H' x.f (s.grow x)
  | bad => rw [q] at h; exact h
theorem goSA {A : CA} {R : List V → Hp → Prop} {Dn : Ends} {f : List D → RS} (s : StS K F0 H0 F e σ H) (h : PostS K cl W F0 H0 F Dn (rA (A e) e f))
    (k : ∀ l F' H' vs, Same F F' → StS K F0 H0 F' e σ H' → RdL K F' l vs → PostS K cl W F0 H0 F' Dn (f l) → R vs H') : ta K cl W A σ H R := by
  refine ⟨F, e, s.st, ?_⟩
  cases q : A e with
  | ok d => rw [q] at h; exact fun F' H' vs x r => k d F' H' vs x.f (s.grow x) r (PostS.grow (r := f d) _ _ _ _ _ x.f h)
  | exc c => rw [q] at h; exact fun F' H' x => h F' σ H' x.f (s.grow x)
  | bad => rw [q] at h; exact h
theorem goSN {A : CA} {R : VK} {Dn : Ends} {f : List D → RS} (s : StS K F0 H0 F e σ H) (h : PostS K cl W F0 H0 F Dn (rA (A e) e f))
    (k : ∀ l F' H' p vs, Same F F' → StS K F0 H0 F' e σ H' → H' p = none → RdL K F' l vs → vs.length ≤ sizeLine → PostS K cl W F0 H0 F' Dn (f l) → R (.ref p) (upd H' p (.lst vs))) : tn K cl W A σ H R := by
  refine ⟨F, e, s.st, ?_⟩
  cases q : A e with
  | ok d => rw [q] at h; exact fun F' H' p vs x np r z => k d F' H' p vs x.f (s.grow x) np r z (PostS.grow (r := f d) _ _ _ _ _ x.f h)
  | exc c => rw [q] at h; exact fun F' H' x => h F' σ H' x.f (s.grow x)
  | bad => rw [q] at h; exact h
end
def sNx : CS := fun e => .nx e
def sSeq (B C : CS) : CS := fun e => match B e with
  | .nx e1 => C e1
  | r => r
def sSet (i : Nat) (A : CE) : CS := fun e => rE (A e) e fun d => match d.solid with | true => .nx (e.set i (.dat d)) | false => .bad
def sSetN (i : Nat) (A : CA) : CS := fun e => rA (A e) e fun l => .nx (e.set i (.own l))
def sAsg (G : CG) (A : CE) : CS := fun e => rE (A e) e fun d => match d.solid with | true => (match G d e with | some e1 => .nx e1 | none => .bad) | false => .bad
def sPar (i j : Nat) (A : CA) : CS := fun e => rA (A e) e fun l => match l with
  | [x, y] => .nx ((e.set i (.dat x)).set j (.dat y))
  | _ => .bad
def sRet (A : CE) : CS := fun e => rE (A e) e fun d => match d.solid with | true => .rt d | false => .bad
def sRetN : CS := fun _ => .rt .non
def sIf (T : CT) (B C : CS) : CS := fun e => rT (T e) e fun b => match b with | true => B e | false => C e
def sDrop (A : CE) : CS := fun e => rE (A e) e fun _ => .nx e
def forL (G : CG) (B : CS) : List D → CS
  | [], e => .nx e
  | d :: l, e => match G d e with
    | none => .bad
    | some e1 => match B e1 with
      | .nx e2 => forL G B l e2
      | .ct e2 => forL G B l e2
      | .bk e2 => .nx e2
      | r => r
def sFor (A : CA) (G : CG) (B : CS) : CS := fun e => rA (A e) e fun l => forL G B l e
def sWhl (T : CT) (B : CS) : Nat → CS
  | 0, _ => .bad
  | n + 1, e => rT (T e) e fun b => match b with
    | true => (match B e with
      | .nx e2 => sWhl T B n e2
      | .ct e2 => sWhl T B n e2
      | .bk e2 => .nx e2
      | r => r)
    | false => .nx e
def sRaise (c : Nat) : CS := fun e => .exc c e
def sFz (i : Nat) (B : CS) : CS := fun e => match e[i]? with
  | some (.own l) => B (e.set i (.dat (.lst l)))
  | _ => B e
section
variable {X : Cx} {cl : Nat → Value} {W : WX} {F0 H0 : Hp} {st : Stmt} {rest sts els : List Stmt} {B C : CS} {a : Expr} {A : CE} {L : CA} {T : CT} {pos : Pos}
theorem ppss_nil : PPSs X cl W F0 H0 [] sNx := PSs.imp pss_nil fun D σ H ⟨F, e, s, h⟩ => h F σ H (Same.refl _) s
theorem ppss_cons (h1 : PPS X cl W F0 H0 st B) (h2 : PPSs X cl W F0 H0 rest C) : PPSs X cl W F0 H0 (st :: rest) (sSeq B C) := PSs.imp (pss_cons h1 h2) fun Dn σ H ⟨F, e, s, h⟩ => by
  refine ⟨F, e, s, ?_⟩
  unfold sSeq at h
  cases q : B e with
  | nx e1 => rw [q] at h; exact fun F' σ' H' x s' => ⟨F', e1, s', PostS.grow (r := C e1) _ _ _ _ _ x h⟩
  | rt d => rw [q] at h; exact h
  | bk e1 => rw [q] at h; exact h
  | ct e1 => rw [q] at h; exact h
  | exc c e1 => rw [q] at h; exact h
  | bad => rw [q] at h; exact h
theorem ppss_one (h1 : PPS X cl W F0 H0 st B) : PPSs X cl W F0 H0 [st] B := pss_one h1
theorem pps_pass : PPS X cl W F0 H0 (.Pass pos) sNx := PS.imp ps_pass fun D σ H ⟨F, e, s, h⟩ => h F σ H (Same.refl _) s
theorem pps_set {i : Nat} {x : Str} {pos' : Pos} (hN : X.N.Nodup) (hi : X.N[i]? = some x) (hx : Loc X.env.scope x) (ha : PP X cl W a A) (hs : swapsWith a (some (.Name x pos')) pos.line X.env = pure false := by rfl) (hf : X.fn x = true ∨ X.env.scope.names.lookup x = some .local := by first | exact .inl rfl | exact .inr rfl | assumption) :
    PPS X cl W F0 H0 (.Assign [.Name x pos'] a pos) (sSet i A) := PS.imp (ps_set hN hi hx ha hs hf) fun Dn σ H ⟨F, e, s, h⟩ => goSE s h fun d F1 H1 v x1 s1 r1 h1 => by
  cases q : d.solid with
  | false => rw [q] at h1; exact h1.elim
  | true =>
    rw [q] at h1
    obtain ⟨a, b⟩ := s1.st.set (i := i) (r1.rd q)
    exact h1 _ _ _ (Same.refl _) (s1.keep a b)
theorem pps_asg {tg : Expr} {G : CG} (ha : PP X cl W a A) (hg : PPG X tg G) (hs : swapsWithSole [tg] a pos.line X.env = pure false := by rfl) (hw : swappedStores [tg] a X.env = pure none := by rfl)
    (h1 : (assignEach [tg] X.env).map (·.2) = [assign tg X.env] := by rfl) : PPS X cl W F0 H0 (.Assign [tg] a pos) (sAsg G A) := PS.imp (ps_asg ha hg hs hw h1) fun Dn σ H ⟨F, e, s, h⟩ => goSE s h fun d F1 H1 v x1 s1 r1 h1 => by
  cases q : d.solid with
  | false => rw [q] at h1; exact h1.elim
  | true =>
    rw [q] at h1
    cases z : G d e with
    | none => rw [z] at h1; exact h1.elim
    | some e1 =>
      rw [z] at h1
      exact ⟨F1, e, d, e1, s1.st, r1.rd q, z, fun σ' st' ok => h1 _ _ _ (Same.refl _) (s1.keep st' ok)⟩
theorem pps_par {i j : Nat} {x y : Str} {a b : Expr} {px py pt : Pos} {kt k2 pt2} (hc : X.calm = true) (hN : X.N.Nodup) (hi : X.N[i]? = some x) (hj : X.N[j]? = some y) (hij : i ≠ j)
    (hx : X.env.scope.names.lookup x = some .local) (hy : X.env.scope.names.lookup y = some .local) (ha : PPA X cl W [a, b] L)
    (hw : swappedStores [.Tuple [.Name x px, .Name y py] kt pt] (.Tuple [a, b] k2 pt2) X.env = pure (some [x, y]))
    (hs : swapsWithSole [.Tuple [.Name x px, .Name y py] kt pt] (.Tuple [a, b] k2 pt2) pos.line X.env = pure false := by rfl) :
    PPS X cl W F0 H0 (.Assign [.Tuple [.Name x px, .Name y py] kt pt] (.Tuple [a, b] k2 pt2) pos) (sPar i j L) := PS.imp (ps_par hc hN hi hj hij hx hy ha hw hs) fun Dn σ H ⟨F, e, s, h⟩ => goSA s h fun l F1 H1 vs x1 s1 r1 h1 => by
  split at h1
  · cases r1 with
    | cons r1 r2 =>
      cases r2 with
      | cons r2 r3 =>
        cases r3
        obtain ⟨a1, b1⟩ := s1.st.set (i := i) r1
        obtain ⟨a2, b2⟩ := a1.set (i := j) r2
        exact ⟨_, _, rfl, h1 _ _ _ (Same.refl _) (s1.keep a2 (b1.trans b2))⟩
  · exact h1.elim
theorem pps_ret (ha : PP X cl W a A) : PPS X cl W F0 H0 (.Return (some a) pos) (sRet A) := PS.imp (ps_ret ha) fun Dn σ H ⟨F, e, s, h⟩ => goSE s h fun d F1 H1 v x1 s1 r1 h1 => by
  cases q : d.solid with
  | false => rw [q] at h1; exact h1.elim
  | true => rw [q] at h1; exact h1 _ _ _ s1.ext (r1.rd q)
theorem pps_retN : PPS X cl W F0 H0 (.Return none pos) sRetN := PS.imp ps_retN fun Dn σ H ⟨F, e, s, h⟩ => h F H _ s.ext .non
theorem pps_if {c : Expr} {a b : List Stmt} (hc : PPT X cl W c T) (ha : PPSs X cl W F0 H0 a B) (hb : PPSs X cl W F0 H0 b C) : PPS X cl W F0 H0 (.If c a b pos) (sIf T B C) := PS.imp (ps_if hc ha hb) fun Dn σ H ⟨F, e, s, h⟩ => goST s h fun b F1 H1 x1 s1 h1 => by
  cases b with
  | true => exact iteT ⟨F1, e, s1, h1⟩
  | false => exact iteF ⟨F1, e, s1, h1⟩
theorem pps_break : PPS X cl W F0 H0 (.Break pos) (fun e => .bk e) := PS.imp ps_break fun Dn σ H ⟨F, e, s, h⟩ => h F σ H (Same.refl _) s
theorem pps_cont : PPS X cl W F0 H0 (.Continue pos) (fun e => .ct e) := PS.imp ps_continue fun Dn σ H ⟨F, e, s, h⟩ => h F σ H (Same.refl _) s
/-- a loop's turn ends so -/
def loopEnd (r : RS) (k : En → RS) : RS := match r with
  | .nx e2 => k e2
  | .ct e2 => k e2
  | .bk e2 => .nx e2
  | r => r
theorem forL_cons (G : CG) (B : CS) (d : D) (l : List D) (e : En) : forL G B (d :: l) e = (match G d e with | none => .bad | some e1 => loopEnd (B e1) (forL G B l)) := by
  show (match G d e with | none => RS.bad | some e1 => _) = _
  cases G d e with
  | none => rfl
  | some e1 => unfold loopEnd; cases B e1 <;> rfl
theorem PostS.turn {K : PySem.W.Frag} {cl : Nat → Value} {W : WX} {F0 H0 F : Hp} {Dn : Ends} {r : RS} {k : En → RS} {N : St → Hp → Prop} (h : PostS K cl W F0 H0 F Dn (loopEnd r k))
    (hN : ∀ e' F' σ' H', Same F F' → StS K F0 H0 F' e' σ' H' → PostS K cl W F0 H0 F' Dn (k e') → N σ' H') : PostS K cl W F0 H0 F { Dn with nx := N, ct := N, bk := Dn.nx } r := by
  cases r with
  | nx e' => exact fun F' σ' H' x s => hN e' F' σ' H' x s (PostS.grow (r := k e') _ _ _ _ _ x h)
  | ct e' => exact fun F' σ' H' x s => hN e' F' σ' H' x s (PostS.grow (r := k e') _ _ _ _ _ x h)
  | bk e' => exact h
  | rt d => exact h
  | exc c e' => exact h
  | bad => exact h
theorem pps_for {tg iter : Expr} {body : List Stmt} {G : CG} (hp : PassesOwn (model X.prog X.w) X.A X.env X.xe) (hc : X.calm = true) (hi : PPI X cl W tg iter L) (hg : PPG X tg G) (hb : PPSs X cl W F0 H0 body B)
    (hs : ∀ x, foldedSetIterable iter X.env x = pure x := by intro _; rfl) : PPS X cl W F0 H0 (.For tg iter body [] pos) (sFor L G B) := PS.imp (ps_for hp hc hi hg hb hs) fun Dn σ H ⟨F, e, s, h⟩ => by
  refine ⟨F, e, s.st, ?_⟩
  unfold sFor rA at h
  cases q : L e with
  | exc c => rw [q] at h; exact fun F' H' x => h F' σ H' x.f (s.grow x)
  | bad => rw [q] at h; exact h
  | ok l =>
    rw [q] at h
    intro J F1 H1 x1 wk
    refine ⟨fun i m σ H => m + i = l.length ∧ ∃ F e, Same F1 F ∧ StS X.K F0 H0 F e σ H ∧ PostS X.K cl W F0 H0 F Dn (forL G B (l.drop i) e), ⟨l.length, by omega, F1, e, Same.refl _, s.grow x1, by rw [List.drop_zero]; exact PostS.grow (r := forL G B l e) _ _ _ _ _ x1.f h⟩, fun i m σ H2 w => ?_⟩
    obtain ⟨le, F2, e2, s12, s2, h2⟩ := w
    obtain ⟨w1, w2, w3⟩ := wk F2 H2 s12 s2.ext.sub
    by_cases hi : i < l.length
    · refine .inr ⟨w1 i hi, fun σ' H' => m - 1 + (i + 1) = l.length ∧ ∃ F e, Same F1 F ∧ StS X.K F0 H0 F e σ' H' ∧ PostS X.K cl W F0 H0 F Dn (forL G B (l.drop (i + 1)) e), fun σ' H' w => ⟨m - 1, by omega, w⟩, fun x H3 y => ?_⟩
      obtain ⟨d, F3, ed, x3, rx⟩ := w3 i x H3 hi y
      have el : l.drop i = d :: l.drop (i + 1) := by
        rw [List.drop_eq_getElem_cons hi]
        have : l[i] = d := by rw [List.getElem?_eq_getElem hi] at ed; exact Option.some.inj ed
        rw [this]
      rw [el, forL_cons] at h2
      have s3 := s2.grow x3
      cases qG : G d e2 with
      | none => rw [qG] at h2; exact h2.elim
      | some e3 =>
        rw [qG] at h2
        refine ⟨F3, e2, d, e3, s3.st, rx, qG, fun σ' st' ok => ⟨F3, e3, s3.keep st' ok, ?_⟩⟩
        exact PostS.turn (PostS.grow _ _ _ _ _ x3.f h2) fun e' F' σ' H' x s' h' => ⟨by omega, F', e', (s12.trans x3.f).trans x, s', h'⟩
    · refine .inl ⟨w2 i (by omega), ?_⟩
      have el : l.drop i = [] := List.drop_eq_nil_of_le (by omega)
      rw [el] at h2
      exact h2 _ _ _ (Same.refl _) s2
theorem sWhl_succ (T : CT) (B : CS) (n : Nat) (e : En) : sWhl T B (n + 1) e = rT (T e) e fun b => match b with | true => loopEnd (B e) (sWhl T B n) | false => .nx e := by
  show rT (T e) e _ = _
  congr 1
theorem pps_while {c : Expr} {body : List Stmt} (n : Nat) (hp : PassesOwn (model X.prog X.w) X.A X.env X.xe) (hc : PPT X cl W c T) (hb : PPSs X cl W F0 H0 body B) : PPS X cl W F0 H0 (.While c body [] pos) (sWhl T B n) := PS.imp (ps_while hp hc hb) fun Dn σ H ⟨F, e, s, h⟩ => by
  refine ⟨fun m σ H => ∃ F e, StS X.K F0 H0 F e σ H ∧ PostS X.K cl W F0 H0 F Dn (sWhl T B m e), ⟨n, F, e, s, h⟩, fun m σ H w => ?_⟩
  obtain ⟨F, e, s, h⟩ := w
  cases m with
  | zero => exact h.elim
  | succ m =>
    rw [sWhl_succ] at h
    refine goST s h fun b F1 H1 x1 s1 h1 => ?_
    cases b with
    | true =>
      refine iteT ⟨fun σ' H' => ∃ F e, StS X.K F0 H0 F e σ' H' ∧ PostS X.K cl W F0 H0 F Dn (sWhl T B m e), fun σ' H' w => ⟨m, Nat.lt_succ_self _, w⟩, F1, e, s1, ?_⟩
      exact PostS.turn h1 fun e' F' σ' H' x s' h' => ⟨F', e', s', h'⟩
    | false => exact iteF (h1 _ _ _ (Same.refl _) s1)
theorem pps_raise {c : Nat} (hc : X.calm = true) (tk : Takes X W) (he : PMk X a (fun _ H Q => Q (cl c) none H)) : PPS X cl W F0 H0 (.Raise (some a) none pos) (sRaise c) := PS.imp (ps_raise hc tk he) fun Dn σ H ⟨F, e, s, h⟩ => h F σ H (Same.refl _) s
/-- raise X(), X an own class without __init__ -/
theorem pmk_own0 {x : Str} {C : Addr} {p : Pos} {bmB : List Value} {Bn newId initId : String} (Fc : ExcBaseFacts Bn newId initId bmB) (q : PySem.W.excIn X.K C bmB newId = true) (gC : X.mg x = some (.ref C)) (kC : PySem.W.keepIn X.K (.ref C) = true) (r : Raises X (.ref C)) (hg : Gl X x)
    (hdb : (x == ("__debug__" : Str)) = false := by decide) : PMk X (.Call (.Name x p) [] [] pos) (fun _ H Q => Q (.ref C) none H) := by
  intro pins s σ H Q I h
  refine wpAny_Call_Name_kw (ld_glob I hg gC ?_ hdb)
  refine PySem.W.callWith_K0 I.kIn kC ?_
  show wpAny _ _ (call (.ref C) []) _ _ _
  obtain ⟨bm, N, nm, qn, bs, hdct, sn, sub, ab, col, dd, k0, k1, k2, k3, k5, mN, hC, hN, hni, T⟩ := exc_obj I.kIn q
  refine wpAny_call_exc_subT Fc T hC hN hni (fun h' e hm => ?_) (by show 0 ≤ sizeLine; exact Nat.zero_le _)
  exact mk_of I hm r h (I.hok.gone hm.new)
/-- an own list becomes data -/
theorem Stt.freeze {K : PySem.W.Frag} {F : Hp} {e : En} {σ : St} {H : Hp} {i : Nat} {l : List D} (st : Stt K F e σ H) (h : e[i]? = some (.own l)) : ∃ a vs, σ[i]? = some (some (.ref a)) ∧ H a = some (.lst vs) ∧ F a = none ∧ Stt K (upd F a (.lst vs)) (e.set i (.dat (.lst l))) σ H := by
  obtain ⟨a, vs, h1, h2, h3, h4⟩ := st.at_ i _ h
  have sF : Same F (upd F a (.lst vs)) := fun b u z => by rw [upd_ne (ne_of_none z h3)]; exact z
  refine ⟨a, vs, h1, h2, h3, ⟨fun b u z => ?_, by simp [st.len], fun j s q => ?_, fun j k l1 l2 p q1 q2 q3 q4 => ?_⟩⟩
  · by_cases hb : b = a
    · subst hb; rw [upd_same] at z; cases z; exact h2
    · rw [upd_ne hb] at z; exact st.sub _ _ z
  · by_cases hj : i = j
    · subst hj
      have hl : i < e.length := (List.getElem?_eq_some_iff.mp h).1
      rw [List.getElem?_set_self hl] at q
      cases q
      exact ⟨_, h1, .lst upd_same (h4.same sF)⟩
    · rw [List.getElem?_set_ne hj] at q
      have z := st.at_ j s q
      cases s with
      | no => trivial
      | dat d => obtain ⟨v, z1, z2⟩ := z; exact ⟨v, z1, z2.same sF⟩
      | own l' =>
        obtain ⟨b, ws, z1, z2, z3, z4⟩ := z
        refine ⟨b, ws, z1, z2, ?_, z4.same sF⟩
        have hne : b ≠ a := fun c => hj (st.apart i j l l' a h q h1 (c ▸ z1))
        rw [upd_ne hne]; exact z3
  · have un : ∀ {j : Nat} {l1 : List D}, (e.set i (.dat (.lst l)))[j]? = some (.own l1) → e[j]? = some (.own l1) := fun {j l1} q => by
      by_cases hj : i = j
      · subst hj
        have hl : i < e.length := (List.getElem?_eq_some_iff.mp h).1
        rw [List.getElem?_set_self hl] at q
        cases q
      · rw [List.getElem?_set_ne hj] at q; exact q
    exact st.apart j k l1 l2 p (un q1) (un q2) q3 q4
theorem fz_own {e : En} {i : Nat} {d : D} {j : Nat} {l1 : List D} (q : (e.set i (.dat d))[j]? = some (.own l1)) : e[j]? = some (.own l1) := by
  by_cases hj : i = j
  · subst hj
    by_cases hl : i < e.length
    · rw [List.getElem?_set_self hl] at q; cases q
    · rw [List.getElem?_eq_none (by simpa using hl)] at q; cases q
  · rw [List.getElem?_set_ne hj] at q; exact q
theorem ppss_fz (i : Nat) (h1 : PPSs X cl W F0 H0 sts B) : PPSs X cl W F0 H0 sts (sFz i B) := PSs.imp h1 fun Dn σ H ⟨F, e, s, h⟩ => by
  unfold sFz at h
  cases q : e[i]? with
  | none => rw [q] at h; exact ⟨F, e, s, h⟩
  | some sl =>
    rw [q] at h
    cases sl with
    | no => exact ⟨F, e, s, h⟩
    | dat d => exact ⟨F, e, s, h⟩
    | own l =>
      obtain ⟨a, vs, h1, h2, h3, st'⟩ := s.st.freeze q
      have sF : Same F (upd F a (.lst vs)) := fun b u z => by rw [upd_ne (ne_of_none z h3)]; exact z
      have hn := s.own i l a q h1
      refine ⟨_, _, ⟨st', ⟨s.ext.f.trans sF, s.ext.h, st'.sub, fun b o z => ?_⟩, fun j l' b z1 z2 => s.own j l' b (fz_own z1) z2⟩, PostS.grow (r := B _) _ _ _ _ _ sF h⟩
      by_cases hb : b = a
      · subst hb; exact .inr hn
      · rw [upd_ne hb] at z; exact s.ext.new b o z
end
end M
namespace M
open PySem PySem.Spec PyProof.Rows L2

/-! ### defs -/
def datL : List D → En
  | [] => []
  | d :: l => .dat d :: datL l
def noL : Nat → En
  | 0 => []
  | n + 1 => .no :: noL n
def endD (r : RS) : Res D := match r with
  | .rt d => (match d.solid with | true => .ok d | false => .bad)
  | .nx _ => .ok .non
  | .exc c _ => .exc c
  | _ => .bad
def cDef (n k : Nat) (B : CS) (ds : List D) : Res D := match Nat.beq ds.length n with
  | true => endD (B (datL ds ++ noL k))
  | false => .bad
theorem solid_def (n k : Nat) (B : CS) : Solid (cDef n k B) := fun l d h => by
  unfold cDef at h
  split at h
  · unfold endD at h
    split at h
    · rename_i d' q
      cases z : d'.solid with
      | true => rw [z] at h; cases h; exact z
      | false => rw [z] at h; cases h
    · cases h; rfl
    · cases h
    · cases h
  · cases h
theorem solid_bad : Solid (fun _ => .bad) := fun _ _ h => nomatch h
theorem datL_len : ∀ l : List D, (datL l).length = l.length
  | [] => rfl
  | _ :: l => congrArg (· + 1) (datL_len l)
theorem noL_len : ∀ n : Nat, (noL n).length = n
  | 0 => rfl
  | n + 1 => congrArg (· + 1) (noL_len n)
theorem noL_get : ∀ (n i : Nat) (s : Sl), (noL n)[i]? = some s → s = .no
  | 0, _, _, h => by simp [noL] at h
  | n + 1, 0, s, h => by simp [noL] at h; exact h.symm
  | n + 1, i + 1, s, h => noL_get n i s (by simpa [noL] using h)
theorem datL_get : ∀ (l : List D) (i : Nat) (s : Sl), (datL l)[i]? = some s → ∃ d, l[i]? = some d ∧ s = .dat d
  | [], _, _, h => by simp [datL] at h
  | d :: l, 0, s, h => by simp [datL] at h; exact ⟨d, by simp, h.symm⟩
  | d :: l, i + 1, s, h => by
    obtain ⟨d', a, b⟩ := datL_get l i s (by simpa [datL] using h)
    exact ⟨d', by simpa using a, b⟩
theorem start_ok {K : PySem.W.Frag} {F H : Hp} {N : List Str} {ds : List D} {vs : List V} {k : Nat} (sm : Same F H) (r : RdL K F ds vs) (hk : ds.length + k = N.length) : StS K F H F (datL ds ++ noL k) (L2.start N vs) H := by
  have hl := r.length
  have own0 : ∀ (i : Nat) (l : List D), (datL ds ++ noL k)[i]? = some (.own l) → False := fun i l h => by
    by_cases hi : i < (datL ds).length
    · rw [List.getElem?_append_left hi] at h
      obtain ⟨d, _, e⟩ := datL_get _ _ _ h
      cases e
    · rw [List.getElem?_append_right (by omega)] at h
      cases noL_get _ _ _ h
  refine ⟨⟨sm, ?_, fun i s h => ?_, fun i j l l' a h1 _ _ _ => (own0 i l h1).elim⟩, Ext.refl sm, fun i l a h1 _ => (own0 i l h1).elim⟩
  · unfold L2.start
    simp [datL_len, noL_len, hl]
    omega
  · by_cases hi : i < (datL ds).length
    · rw [List.getElem?_append_left hi] at h
      obtain ⟨d, e, rfl⟩ := datL_get _ _ _ h
      obtain ⟨v, e2, rv⟩ := r.get e
      refine ⟨v, ?_, rv⟩
      unfold L2.start
      rw [datL_len] at hi
      rw [List.getElem?_append_left (by simp; omega), List.getElem?_map, e2]
      rfl
    · rw [List.getElem?_append_right (by omega)] at h
      cases noL_get _ _ _ h
      trivial
section
variable {P : Program} {w : World} {K : PySem.W.Frag} {mg : Str → Option Value} {base : Heap} {cl : Nat → Value}
/-- the context of a def's body -/
abbrev bodyX (P : Program) (w : World) (K : PySem.W.Frag) (mg : Str → Option Value) (base : Heap) (N : List Str) (x : Str) (st : Stmt) (f : Addr) (cdv : Value) (A : Around) (outer : List PySem.Env) (s : Shared) (H : Hp) (E : XK) : Cx := cxOf (L2.CX P w) P w K mg base N x (defScope st) f cdv A outer s H E
abbrev WD (E : XK) : WX := fun cls d _ H => E cls d H
theorem fm_def {st : Stmt} {x : Str} {N ps : List Str} {k : Nat} {n j : Nat} {B : CS} {f : Addr} {fd : FuncData} (F : Fun K x x st f fd) (S : FnScope N ps (defScope st)) (hm : mg x = some (.ref f)) (hb : Binds K fd ps []) (hn : ps.length = n) (hN : N.length = n + j)
    (body : ∀ (cdv : Value) (A : Around) (outer : List PySem.Env) (s : Shared) (H : Hp) (E : XK) (Fz : Hp), Room k (bodyX P w K mg base N x st f cdv A outer s H E).A → PPSs (bodyX P w K mg base N x st f cdv A outer s H E) cl (WD E) Fz H (defBody st) B) :
    Fm P w K mg base cl (k + 1) x st ps (cDef n j B) := by
  have hlen : ∀ vs H Q E, spP K cl (cDef n j B) vs H Q E → vs.length = ps.length := fun vs H Q E ⟨Fz, ds, sm, r, q⟩ => by
    unfold cDef at q
    cases z : Nat.beq ds.length n with
    | false => rw [z] at q; exact q.elim
    | true => rw [← r.length, Nat.eq_of_beq_eq_true z, hn]
  refine ⟨f, fd, hm, F, hb, F.okX S hlen fun cdv A outer s H vs Q E hr h => ?_⟩
  obtain ⟨Fz, ds, sm, r, q⟩ := h
  refine ⟨_, body cdv A outer s H E Fz hr, ?_⟩
  unfold cDef at q
  cases z : Nat.beq ds.length n with
  | false => rw [z] at q; exact q.elim
  | true =>
    rw [z] at q
    have hz := Nat.eq_of_beq_eq_true z
    refine ⟨Fz, datL ds ++ noL j, start_ok sm r (by rw [hN, hz]), ?_⟩
    simp only at q
    unfold endD at q
    cases y : B (datL ds ++ noL j) with
    | rt d =>
      rw [y] at q
      cases y2 : d.solid with
      | false => simp only [y2] at q
      | true => simp only [y2] at q; exact fun F' H' v x r => q.2 F' H' v x r
    | nx e => rw [y] at q; exact fun F' σ' H' _ s' => q.2 F' H' _ s'.ext .non
    | exc c e => rw [y] at q; exact fun F' σ' H' _ s' => q F' H' s'.ext
    | bk e => rw [y] at q; exact q.elim
    | ct e => rw [y] at q; exact q.elim
    | bad => rw [y] at q; exact q.elim
/-- nothing promised -/
theorem fm_bad {st : Stmt} {x : Str} {ps : List Str} {k : Nat} {f : Addr} {fd : FuncData} (F : Fun K x x st f fd) (hm : mg x = some (.ref f)) (hb : Binds K fd ps []) : Fm P w K mg base cl k x st ps (fun _ => .bad) :=
  ⟨f, fd, hm, F, hb, ⟨fun vs H Q E ⟨_, _, _, _, q⟩ => q.elim, fun A outer s H args us vs Q E hr he hb hv ⟨_, _, _, _, q⟩ => q.elim⟩⟩
/-- a def that calls itself -/
theorem fm_rec {st : Stmt} {x : Str} {ps : List Str} {k0 : Nat} {m : Nat → List D → Res D} (h0 : Fm P w K mg base cl k0 x st ps (m 0)) (hs : ∀ j, Fm P w K mg base cl (k0 + j) x st ps (m j) → Fm P w K mg base cl (k0 + (j + 1)) x st ps (m (j + 1))) : ∀ j, Fm P w K mg base cl (k0 + j) x st ps (m j)
  | 0 => h0
  | j + 1 => hs j (fm_rec h0 hs j)
end

/-! ### keywords -/
def permL {α : Type} (idx : List Nat) (l : List α) : List α := idx.filterMap fun j => l[j]?
def permD : List Nat → List D → Option (List D)
  | [], _ => some []
  | j :: r, l => match nthD l j with
    | some d => (match permD r l with | some k => some (d :: k) | none => none)
    | none => none
theorem permD_rd {K : PySem.W.Frag} {F : Hp} : ∀ {idx : List Nat} {l k : List D} {vs : List V}, permD idx l = some k → RdL K F l vs → RdL K F k (permL idx vs) ∧ ∀ j ∈ idx, j < vs.length
  | [], _, _, _, h, _ => by cases h; exact ⟨.nil, fun _ h => nomatch h⟩
  | j :: r, l, k, vs, h, rd => by
    simp only [permD, nthD_eq] at h
    cases q : l[j]? with
    | none => rw [q] at h; cases h
    | some d =>
      rw [q] at h
      cases q2 : permD r l with
      | none => simp only [q2] at h; cases h
      | some k' =>
        simp only [q2] at h
        cases h
        obtain ⟨v, e, rv⟩ := rd.get q
        obtain ⟨r1, r2⟩ := permD_rd q2 rd
        refine ⟨?_, fun i hi => ?_⟩
        · unfold permL
          rw [List.filterMap_cons, e]
          exact .cons rv r1
        · rcases List.mem_cons.mp hi with rfl | hi
          · exact (List.getElem?_eq_some_iff.mp e).1
          · exact r2 i hi
theorem perm_vals : ∀ {idx : List Nat} {vs : List V} {us : List Value}, Vals vs us → Vals (permL idx vs) (permL idx us)
  | [], _, _, _ => .nil
  | j :: r, vs, us, h => by
    unfold permL
    rw [List.filterMap_cons, List.filterMap_cons]
    cases q : vs[j]? with
    | none => rw [h.none_of q]; exact perm_vals (idx := r) h
    | some v =>
      obtain ⟨u, e, rv⟩ := h.get q
      rw [e]
      exact .cons rv (perm_vals (idx := r) h)
def cCallK (m : List D → Res D) (idx : List Nat) (L Mk : CA) : CE := fun e => (L e).bind fun us => (Mk e).bind fun ws => match permD idx (us ++ ws) with
  | some l => m l
  | none => .bad
def PPK (X : Cx) (cl : Nat → Value) (W : WX) (kws : List Keyword) (L : CA) : Prop := PK X kws (ta X.K cl W L)
theorem PK.imp {X : Cx} {es : List Keyword} {t t' : TA} (h : PK X es t) (i : ∀ σ H Q, t' σ H Q → t σ H Q) : PK X es t' := ⟨fun pos pins s σ H Q I q => h.run pos pins s σ H Q I (i σ H Q q)⟩
/-- how a def binds keywords (h by rfl, the values as letters) -/
def KB (K : PySem.W.Frag) (fd : FuncData) (ps ks : List Str) (idx : List Nat) (a : Nat) : Prop := ∀ (s : Shared) (us ws : List Value), us.length = a → ws.length = ks.length → BindsTo s fd ⟨us, ks.zip ws⟩ (ps.zip (permL idx (us ++ ws)))
section
variable {X : Cx} {cl : Nat → Value} {W : WX} {a : Expr} {A : CE} {es : List Expr} {kws : List Keyword} {L Mk : CA} {pos p kpos : Pos} {x : Str} {nm : Option Str} {k : Nat} {st : Stmt} {ps ks : List Str} {m : List D → Res D} {idx : List Nat} {na : Nat}
theorem ppk_nil : PPK X cl W [] aN := PK.imp pk_nil fun _ _ _ ⟨F, e, st, h⟩ => PostA.at h st.sub .nil
theorem ppk_cons (ha : PP X cl W a A) (hr : PPK X cl W kws L) : PPK X cl W (⟨nm, a, kpos⟩ :: kws) (aC A L) := PK.imp (pk_cons ha hr) fun _ _ _ ⟨F, e, st, h⟩ => go1A st h fun d F1 H1 v x1 st1 r1 h1 => goAA st1 h1 fun l F2 H2 vs x2 st2 r2 h2 => by
  cases q : d.solid with
  | false => rw [q] at h2; exact h2.elim
  | true =>
    rw [q] at h2
    exact PostA.at h2 st2.sub (.cons ((r1.rd q).same x2.f) r2)
/-- f(k = e, ..) and f(e, .., k = e, ..), by the wp of the arguments -/
theorem run_k {f : Addr} {fd : FuncData} {sp : Sp} {E : XK} {pins : List (Addr × Obj)} {σ : St} {H : Hp} {s : Shared} {Q : VK} {us ws : List Value} {vs zs : List V} (F : FnOk X.prog X.w X.K X.mg X.base (L2.CX X.prog X.w) k f fd ps sp) (hr : Room k X.A) (hb : KB X.K fd ps ks idx na) (hx : PassesAt (L2.CX X.prog X.w) X σ E)
    (I : L2.Inv X pins σ H s) (r : Vals vs us) (rz : Vals zs ws) (l1 : us.length = na) (l2 : ws.length = ks.length) (h : sp (permL idx (vs ++ zs)) H Q E) : wpAny (model X.prog X.w) X.A (call (.ref f) us (ks.zip ws)) (EP X pins σ Q) X.xe s := by
  refine wpAny_call (codeAny_mono (F.run X.A X.stack s H ⟨us, ks.zip ws⟩ (permL idx (us ++ ws)) (permL idx (vs ++ zs)) Q E hr I.env0 (hb s us ws l1 l2) (perm_vals (r.append rz)) h) fun r s' hq => ?_)
  cases r with
  | error e => exact hx pins H s e s' I hq
  | ok fl =>
    cases fl with
    | ret u => exact I.after hq
    | next => exact False.elim hq
    | brk => exact False.elim hq
    | cont => exact False.elim hq
theorem pp_callK0 (G : Fm X.prog X.w X.K X.mg X.base cl k x st ps m) (hs : Solid m) (hr : Room k X.A) (tk : Takes X W) (hg : Gl X x) (hkw : PPK X cl W kws Mk) (hb : ∀ f fd, Fun X.K x x st f fd → KB X.K fd ps ks idx 0) (hL : ∀ e l, Mk e = .ok l → l.length = ks.length)
    (hall : (backToKw pos (keywordEach kws X.env)).all (·.1.isSome) = true := by rfl) (hks : (backToKw pos (keywordEach kws X.env)).filterMap (·.1) = ks := by rfl)
    (hdb : (x == ("__debug__" : Str)) = false := by decide) (hpl : ((backTo pos (starEach [] X.env)).any (·.1) || (backToKw pos (keywordEach kws X.env)).any (·.1.isNone)) = false := by rfl) :
    PP X cl W (.Call (.Name x p) [] kws pos) (cCallK m idx aN Mk) := by
  obtain ⟨f, fd, hm, F, _, ok⟩ := G.ex
  refine ⟨fun pins s σ H Q I ⟨Fz, e, stt, h⟩ => ?_⟩
  refine wpAny_Call_Name_kw (ld_glob I hg hm ?_ hdb)
  refine PySem.W.callWith_KW0 (h₀ := X.base) I.ok.mod.kin F.kp hall ?_ hpl
  refine thn (hkw.run pos pins s σ H (fun zs H2 => zs.length = ks.length ∧ spP X.K cl m (permL idx ([] ++ zs)) H2 Q (WE W σ)) I ?_) fun ws s2 ⟨zs, H2, I2, rz, q1, q2⟩ => ⟨I2.kIn, ?_⟩
  · refine ⟨Fz, e, stt, ?_⟩
    unfold cCallK aN at h
    simp only [Res.bind, List.nil_append] at h
    cases q : Mk e with
    | exc c => rw [q] at h; exact h
    | bad => rw [q] at h; exact h
    | ok l =>
      rw [q] at h
      intro F1 H1 vs x1 r1
      cases q2 : permD idx l with
      | none => simp only [q2] at h; exact h.elim
      | some k =>
        simp only [q2] at h
        refine ⟨by rw [← r1.length]; exact hL e l q, ?_⟩
        exact sp_go x1.sub (permD_rd q2 r1).1 (PostE.ext h x1) (hs k)
  · rw [hks]
    exact run_k ok hr (hb f fd F) (passAt tk σ) I2 .nil rz rfl (by rw [← rz.length]; exact q1) q2
theorem pp_callK (G : Fm X.prog X.w X.K X.mg X.base cl k x st ps m) (hs : Solid m) (hr : Room k X.A) (tk : Takes X W) (hg : Gl X x) (ha : PPA X cl W (a :: es) L) (hkw : PPK X cl W kws Mk) (hb : ∀ f fd, Fun X.K x x st f fd → KB X.K fd ps ks idx na) (hA : ∀ e l, L e = .ok l → l.length = na) (hL : ∀ e l, Mk e = .ok l → l.length = ks.length)
    (hall : (backToKw pos (keywordEach kws X.env)).all (·.1.isSome) = true := by rfl) (hks : (backToKw pos (keywordEach kws X.env)).filterMap (·.1) = ks := by rfl)
    (hdb : (x == ("__debug__" : Str)) = false := by decide) (he : starEach (a :: es) X.env = (false, eval a X.env) :: starEach es X.env := by rfl)
    (hpl : ((backTo pos (starEach (a :: es) X.env)).any (·.1) || (backToKw pos (keywordEach kws X.env)).any (·.1.isNone)) = false := by rfl) :
    PP X cl W (.Call (.Name x p) (a :: es) kws pos) (cCallK m idx L Mk) := by
  obtain ⟨f, fd, hm, F, _, ok⟩ := G.ex
  refine ⟨fun pins s σ H Q I ⟨Fz, e, stt, h⟩ => ?_⟩
  refine wpAny_Call_Name_kw (ld_glob I hg hm ?_ hdb)
  refine PySem.W.callWith_KW (h₀ := X.base) I.ok.mod.kin F.kp hall (thn (ha.run pos pins s σ H (fun vs H1 => vs.length = na ∧ ta X.K cl W Mk σ H1 fun zs H2 => zs.length = ks.length ∧ spP X.K cl m (permL idx (vs ++ zs)) H2 Q (WE W σ)) I ?_) fun us s1 ⟨vs, H1, I1, r, q0, q⟩ => ?_) hpl he
  · refine ⟨Fz, e, stt, ?_⟩
    unfold cCallK at h
    cases qL : L e with
    | exc c => rw [qL] at h; exact h
    | bad => rw [qL] at h; exact h
    | ok l =>
      rw [qL] at h
      simp only [Res.bind] at h
      intro F1 H1 vs x1 r1
      refine ⟨by rw [← r1.length]; exact hA e l qL, F1, e, stt.ext x1, ?_⟩
      cases q : Mk e with
      | exc c => rw [q] at h; exact PostE.ext (r := .exc c) h x1
      | bad => rw [q] at h; exact h
      | ok l2 =>
        rw [q] at h
        intro F2 H2 zs x2 r2
        cases q2 : permD idx (l ++ l2) with
        | none => simp only [q2] at h; exact h.elim
        | some k =>
          simp only [q2] at h
          refine ⟨by rw [← r2.length]; exact hL e l2 q, ?_⟩
          exact sp_go x2.sub (permD_rd q2 ((r1.same x2.f).append r2)).1 (PostE.ext h (x1.trans x2)) (hs k)
  · refine thn (hkw.run pos pins s1 σ H1 _ I1 q) fun ws s2 ⟨zs, H2, I2, rz, q1, q2⟩ => ⟨I2.kIn, ?_⟩
    rw [hks]
    exact run_k ok hr (hb f fd F) (passAt tk σ) I2 r rz (by show us.length = na; rw [← r.length]; exact q0) (by rw [← rz.length]; exact q1) q2
end
end M
namespace M
open PySem PySem.Spec PyProof.Rows L2

/-- what is known of the own classes of exceptions: exm: caught by the clause's class hv; isE: of the built-in class T -/
def ExF (K : PySem.W.Frag) (cl : Nat → Value) (hv : Value) (exm : Nat → Bool) : Prop := ∀ c, ∃ D, cl c = .ref D ∧ PySem.W.exmOne K (.ref D) hv = some (exm c)
def ExI (K : PySem.W.Frag) (cl : Nat → Value) (T : String) (isE : Nat → Bool) : Prop := ∀ c, ∃ D, cl c = .ref D ∧ ExcC K D ∧ PySem.W.kitOne K (.ref D) (.type T) = some (isE c)
def tryC (B : CS) (exm : Nat → Bool) (C : Nat → CS) : CS := fun e => match B e with
  | .exc c e1 => (match exm c with
    | true => (match C c e1 with | .exc _ _ => .bad | r => r)
    | false => .exc c e1)
  | r => r
theorem PostS.tryC {K : PySem.W.Frag} {cl : Nat → Value} {W W' : WX} {F0 H0 F : Hp} {Dn : Ends} {B : CS} {exm : Nat → Bool} {C : Nat → CS} {e : En} (h : PostS K cl W F0 H0 F Dn (tryC B exm C e))
    (k : ∀ c e1 F' σ' H', Same F F' → StS K F0 H0 F' e1 σ' H' → (exm c = true → PostS K cl W0 F0 H0 F' Dn (C c e1)) → (exm c = false → W (cl c) none σ' H') → W' (cl c) none σ' H') : PostS K cl W' F0 H0 F Dn (B e) := by
  unfold M.tryC at h
  cases q : B e with
  | nx e1 => rw [q] at h; exact h
  | rt d => rw [q] at h; exact h
  | bk e1 => rw [q] at h; exact h
  | ct e1 => rw [q] at h; exact h
  | bad => rw [q] at h; exact h
  | exc c e1 =>
    rw [q] at h
    intro F' σ' H' x s
    refine k c e1 F' σ' H' x s (fun z => ?_) (fun z => ?_)
    · simp only [z] at h
      cases y : C c e1 with
      | exc c2 e2 => rw [y] at h; exact h.elim
      | nx e2 => rw [y] at h; exact PostS.grow (r := .nx e2) _ _ _ _ _ x h
      | rt d => rw [y] at h; exact h
      | bk e2 => rw [y] at h; exact PostS.grow (r := .bk e2) _ _ _ _ _ x h
      | ct e2 => rw [y] at h; exact PostS.grow (r := .ct e2) _ _ _ _ _ x h
      | bad => rw [y] at h; exact h
    · simp only [z] at h
      exact h F' σ' H' x s
section
variable {X : Cx} {cl : Nat → Value} {W : WX} {F0 H0 : Hp} {body : List Stmt} {B : CS} {x n : Str} {hv : Value} {i j : Nat} {np pos pos' p1 p2 p3 p4 p5 p6 p7 p8 : Pos} {exm isE : Nat → Bool} {s : Str} {T : Str} {Tn : String} {j1 : Nat}
/-- [str, isinstance(n, T)] within an except suite -/
theorem suite_lst {a D : Addr} {oe : Obj} {pn : List (Addr × Obj)} (C : ExcC X.K D) (hz : Zc (.ref D) none oe) (hf : ∃ vs, oe.data = .fields vs) (hi : X.N[i]? = some n) (hln : X.env.kindOf n = some .local) (hgI : Gl X "isinstance") (hmI : X.mg "isinstance" = none) (hgT : Gl X T) (hmT : X.mg T = none) (hvT : bootBuiltins T = some (.type Tn))
    (hnT : T ≠ "__name__") (hdT : (T == ("__debug__" : Str)) = false) (hdn : (n == ("__debug__" : Str)) = false) (hcn : (n == ("__classdict__" : Str)) = false)
    (h1 : starEach [.Constant (.str s) j1 p1, .Call (.Name "isinstance" p2) [.Name n p3, .Name T p4] [] p5] X.env = (false, eval (.Constant (.str s) j1 p1) X.env) :: starEach [.Call (.Name "isinstance" p2) [.Name n p3, .Name T p4] [] p5] X.env)
    (h2 : starEach [.Call (.Name "isinstance" p2) [.Name n p3, .Name T p4] [] p5] X.env = (false, eval (.Call (.Name "isinstance" p2) [.Name n p3, .Name T p4] [] p5) X.env) :: starEach [] X.env)
    (h3 : starEach [.Name n p3, .Name T p4] X.env = (false, eval (.Name n p3) X.env) :: starEach [.Name T p4] X.env) (h4 : starEach [.Name T p4] X.env = (false, eval (.Name T p4) X.env) :: starEach [] X.env) (h5 : (backTo p5 (starEach [.Name T p4] X.env)).any (·.1) = false) :
    PE (X.suite a ((a, oe) :: pn)) (.List [.Constant (.str s) j1 p1, .Call (.Name "isinstance" p2) [.Name n p3, .Name T p4] [] p5] p6) (tLst (tCons (tC (.str s)) (tCons (tCB (rIsE X.K D a) (tCons (tVar i) (tCons (tC (.ty Tn)) tNil))) tNil))) :=
  pe_lst (pa_cons pe_str (pa_cons (pe_callB (call_isE C hz hf) hgI hmI boot_isinstance (pa_cons (pe_var hi (.inl hln) hdn hcn) (pa_cons (pe_bltn (v := .ty Tn) hgT hmT hvT rfl hnT hdT) pa_nil h4) h3) (by decide) (by decide) h3 h5) pa_nil h2) h1)
theorem suite_go {K : PySem.W.Frag} {a D : Addr} {b : Bool} {F : Hp} {e : En} {σ : St} {H : Hp} {Q : VK} (s0 : StS K F0 H0 F e σ H) (hs : PySem.PyData.strOk s = true) (hk : PySem.W.kitOne K (.ref D) (.type Tn) = some b) (hi : (σ.set i (some (V.ref a)))[i]? = some (some (.ref a)))
    (k : ∀ F' H' p, Same F F' → StS K F0 H0 F' e σ H' → Rd K F' (.lst [.str s, .bl b]) (.ref p) → Q (.ref p) H') : tLst (tCons (tC (.str s)) (tCons (tCB (rIsE K D a) (tCons (tVar i) (tCons (tC (.ty Tn)) tNil))) tNil)) (σ.set i (some (.ref a))) H Q := by
  refine ⟨.ref a, hi, .ty Tn, .type Tn, b, rfl, fun u r => r, hk, by show 2 ≤ sizeLine; decide, fun p np => ?_⟩
  have w := Ext.put s0.st.sub np (.lst [.str s, .bl b])
  exact k _ _ p w.f (s0.grow w) (.lst upd_same (.cons (.str _ hs) (.cons (.bl _) .nil)))
def lstE (s : Str) (isE : Nat → Bool) (c : Nat) : D := .lst [.str s, .bl (isE c)]
/-- within the list -/
def inE (i : Nat) (e : En) (r : RS) : RS := match Nat.blt i e.length with | true => r | false => .bad
theorem inE_ok {K : PySem.W.Frag} {cl : Nat → Value} {W : WX} {F0 H0 F : Hp} {Dn : Ends} {i : Nat} {e : En} {r : RS} (h : PostS K cl W F0 H0 F Dn (inE i e r)) : i < e.length ∧ PostS K cl W F0 H0 F Dn r := by
  unfold inE at h
  cases q : Nat.blt i e.length with
  | true => rw [q] at h; exact ⟨Nat.le_of_ble_eq_true q, h⟩
  | false => rw [q] at h; exact h.elim
/-- try: .. except X as n: return [str, isinstance(n, T)] -/
theorem pps_tryR (hs : X.stack = X.env :: X.outer) (hf : X.env.frame = some X.env.locals) (hN : X.N.Nodup) (hi : X.N[i]? = some n) (hln : X.env.kindOf n = some .local) (hc : Names X x hv) (tk : Takes X W) (hE : ExF X.K cl hv exm) (hI : ExI X.K cl Tn isE)
    (hgI : Gl X "isinstance") (hmI : X.mg "isinstance" = none) (hgT : Gl X T) (hmT : X.mg T = none) (hvT : bootBuiltins T = some (.type Tn))
    (hb : ∀ (W : WX) (pn : List (Addr × Obj)) (xe : Value → Shared → Prop), Takes (X.tr pn xe) W → PassesOwn (model X.prog X.w) X.A X.env xe → PPSs (X.tr pn xe) cl W F0 H0 body B)
    (hst : PySem.PyData.strOk s = true := by decide +kernel) (hnT : T ≠ "__name__" := by decide) (hdT : (T == ("__debug__" : Str)) = false := by decide) (hdn : (n == ("__debug__" : Str)) = false := by decide) (hcn : (n == ("__classdict__" : Str)) = false := by decide)
    (h1 : starEach [.Constant (.str s) j1 p1, .Call (.Name "isinstance" p2) [.Name n p3, .Name T p4] [] p5] X.env = (false, eval (.Constant (.str s) j1 p1) X.env) :: starEach [.Call (.Name "isinstance" p2) [.Name n p3, .Name T p4] [] p5] X.env := by rfl)
    (h2 : starEach [.Call (.Name "isinstance" p2) [.Name n p3, .Name T p4] [] p5] X.env = (false, eval (.Call (.Name "isinstance" p2) [.Name n p3, .Name T p4] [] p5) X.env) :: starEach [] X.env := by rfl)
    (h3 : starEach [.Name n p3, .Name T p4] X.env = (false, eval (.Name n p3) X.env) :: starEach [.Name T p4] X.env := by rfl) (h4 : starEach [.Name T p4] X.env = (false, eval (.Name T p4) X.env) :: starEach [] X.env := by rfl) (h5 : (backTo p5 (starEach [.Name T p4] X.env)).any (·.1) = false := by rfl) :
    PPS X cl W F0 H0 (.Try body [.ExceptHandler (some (.Name x np)) (some n) [.Return (some (.List [.Constant (.str s) j1 p1, .Call (.Name "isinstance" p2) [.Name n p3, .Name T p4] [] p5] p6)) p7] pos'] [] [] pos) (tryC B exm fun c e => inE i e (.rt (lstE s isE c))) := by
  refine PS.imp (ps_try_as (tb := fun W => ts X.K cl W F0 H0 B) (ts := fun a cls d Dn σ H => ∃ D, cls = .ref D ∧ d = none ∧ ExcC X.K D ∧ tRet (tLst (tCons (tC (.str s)) (tCons (tCB (rIsE X.K D a) (tCons (tVar i) (tCons (tC (.ty Tn)) tNil))) tNil))) Dn σ H)
    hs hf hN hi hln hc tk hb (fun a oe cls d pn hz hfs => ⟨fun pins s σ H Dn I q => ?_⟩)) fun Dn σ H ⟨F, e, st, h⟩ => ?_
  · obtain ⟨D, rfl, rfl, C, q⟩ := q
    exact (pss_one (ps_ret (suite_lst C hz hfs hi hln hgI hmI hgT hmT hvT hnT hdT hdn hcn h1 h2 h3 h4 h5))).run pins s σ H Dn I q
  · refine ⟨F, e, st, PostS.tryC h fun c e1 F' σ' H' x s1 ky kn => ?_⟩
    obtain ⟨D, eD, he⟩ := hE c
    obtain ⟨D', eD', C, hk⟩ := hI c
    rw [eD] at eD'
    cases eD'
    refine ⟨exm c, by rw [eD]; exact he, fun z a na => ?_, fun z => kn z⟩
    obtain ⟨hlen, hy⟩ := inE_ok (ky z)
    rw [s1.st.len] at hlen
    refine ⟨D, eD, rfl, C, ?_⟩
    exact suite_go s1 hst hk (by rw [List.getElem?_set_self hlen]) fun F2 H2 p x2 s2 r2 => hy _ _ _ s2.ext r2
/-- try: .. except X as n: y = [str, isinstance(n, T)] -/
theorem pps_tryA {y : Str} {py : Pos} (hs : X.stack = X.env :: X.outer) (hf : X.env.frame = some X.env.locals) (hN : X.N.Nodup) (hi : X.N[i]? = some n) (hln : X.env.kindOf n = some .local) (hj : X.N[j]? = some y) (hly : Loc X.env.scope y) (hij : i ≠ j) (hc : Names X x hv) (tk : Takes X W) (hE : ExF X.K cl hv exm) (hI : ExI X.K cl Tn isE)
    (hgI : Gl X "isinstance") (hmI : X.mg "isinstance" = none) (hgT : Gl X T) (hmT : X.mg T = none) (hvT : bootBuiltins T = some (.type Tn))
    (hb : ∀ (W : WX) (pn : List (Addr × Obj)) (xe : Value → Shared → Prop), Takes (X.tr pn xe) W → PassesOwn (model X.prog X.w) X.A X.env xe → PPSs (X.tr pn xe) cl W F0 H0 body B)
    (hst : PySem.PyData.strOk s = true := by decide +kernel) (hnT : T ≠ "__name__" := by decide) (hdT : (T == ("__debug__" : Str)) = false := by decide) (hdn : (n == ("__debug__" : Str)) = false := by decide) (hcn : (n == ("__classdict__" : Str)) = false := by decide)
    (hsw : swapsWith (.List [.Constant (.str s) j1 p1, .Call (.Name "isinstance" p2) [.Name n p3, .Name T p4] [] p5] p6) (some (.Name y py)) p7.line X.env = pure false := by rfl) (hfn : X.fn y = true ∨ X.env.scope.names.lookup y = some .local := by first | exact .inl rfl | exact .inr rfl | assumption)
    (h1 : starEach [.Constant (.str s) j1 p1, .Call (.Name "isinstance" p2) [.Name n p3, .Name T p4] [] p5] X.env = (false, eval (.Constant (.str s) j1 p1) X.env) :: starEach [.Call (.Name "isinstance" p2) [.Name n p3, .Name T p4] [] p5] X.env := by rfl)
    (h2 : starEach [.Call (.Name "isinstance" p2) [.Name n p3, .Name T p4] [] p5] X.env = (false, eval (.Call (.Name "isinstance" p2) [.Name n p3, .Name T p4] [] p5) X.env) :: starEach [] X.env := by rfl)
    (h3 : starEach [.Name n p3, .Name T p4] X.env = (false, eval (.Name n p3) X.env) :: starEach [.Name T p4] X.env := by rfl) (h4 : starEach [.Name T p4] X.env = (false, eval (.Name T p4) X.env) :: starEach [] X.env := by rfl) (h5 : (backTo p5 (starEach [.Name T p4] X.env)).any (·.1) = false := by rfl) :
    PPS X cl W F0 H0 (.Try body [.ExceptHandler (some (.Name x np)) (some n) [.Assign [.Name y py] (.List [.Constant (.str s) j1 p1, .Call (.Name "isinstance" p2) [.Name n p3, .Name T p4] [] p5] p6) p7] pos'] [] [] pos) (tryC B exm fun c e => inE i e (.nx ((e.set j (.dat (lstE s isE c))).set i .no))) := by
  refine PS.imp (ps_try_as (tb := fun W => ts X.K cl W F0 H0 B) (ts := fun a cls d Dn σ H => ∃ D, cls = .ref D ∧ d = none ∧ ExcC X.K D ∧ tAsg (tLst (tCons (tC (.str s)) (tCons (tCB (rIsE X.K D a) (tCons (tVar i) (tCons (tC (.ty Tn)) tNil))) tNil))) (gName j) Dn σ H)
    hs hf hN hi hln hc tk hb (fun a oe cls d pn hz hfs => ⟨fun pins s σ H Dn I q => ?_⟩)) fun Dn σ H ⟨F, e, st, h⟩ => ?_
  · obtain ⟨D, rfl, rfl, C, q⟩ := q
    exact (pss_one (ps_set (X := X.suite a ((a, oe) :: pn)) hN hj hly (suite_lst C hz hfs hi hln hgI hmI hgT hmT hvT hnT hdT hdn hcn h1 h2 h3 h4 h5) hsw hfn)).run pins s σ H Dn I q
  · refine ⟨F, e, st, PostS.tryC h fun c e1 F' σ' H' x s1 ky kn => ?_⟩
    obtain ⟨D, eD, he⟩ := hE c
    obtain ⟨D', eD', C, hk⟩ := hI c
    rw [eD] at eD'
    cases eD'
    refine ⟨exm c, by rw [eD]; exact he, fun z a na => ?_, fun z => kn z⟩
    obtain ⟨hlen, hy⟩ := inE_ok (ky z)
    rw [s1.st.len] at hlen
    refine ⟨D, eD, rfl, C, ?_⟩
    refine suite_go s1 hst hk (by rw [List.getElem?_set_self hlen]) fun F2 H2 p x2 s2 r2 => ?_
    have e3 : ((σ'.set i (some (V.ref a))).set j (some (V.ref p))).set i none = (σ'.set j (some (V.ref p))).set i none := by
      rw [List.set_comm _ _ hij, List.set_set]
    obtain ⟨a1, b1⟩ := s2.st.set (i := j) r2
    obtain ⟨a2, b2⟩ := a1.unset (i := i)
    show Dn.nx (((σ'.set i (some (V.ref a))).set j (some (V.ref p))).set i none) H2
    rw [e3]
    exact hy _ _ _ x2 (s2.keep a2 (b1.trans b2))
/-- try: .. except X: suite -/
theorem pps_tryO {b₀ : Stmt} {suite : List Stmt} {C : CS} (hs : X.stack = X.env :: X.outer) (hf : X.env.frame = some X.env.locals) (hc : Names X x hv) (tk : Takes X W) (hE : ExF X.K cl hv exm)
    (hb : ∀ (W : WX) (pn : List (Addr × Obj)) (xe : Value → Shared → Prop), Takes (X.tr pn xe) W → PassesOwn (model X.prog X.w) X.A X.env xe → PPSs (X.tr pn xe) cl W F0 H0 body B)
    (hsu : ∀ (a : Addr) (pn : List (Addr × Obj)), PPSs (X.suite a pn) cl W0 F0 H0 (b₀ :: suite) C) :
    PPS X cl W F0 H0 (.Try body [.ExceptHandler (some (.Name x np)) none (b₀ :: suite) pos'] [] [] pos) (tryC B exm fun _ => C) := by
  refine PS.imp (ps_try_only (tb := fun W => M.ts X.K cl W F0 H0 B) (ts := fun _ _ _ => M.ts X.K cl W0 F0 H0 C) hs hf hc tk hb (fun a oe cls d pn hz hfs => hsu a _)) fun Dn σ H ⟨F, e, st, h⟩ => ?_
  refine ⟨F, e, st, PostS.tryC h fun c e1 F' σ' H' x s1 ky kn => ?_⟩
  obtain ⟨D, eD, he⟩ := hE c
  exact ⟨exm c, by rw [eD]; exact he, fun z a na => ⟨F', e1, s1, ky z⟩, fun z => kn z⟩
end
end M
namespace M
open PySem PySem.Spec PyProof.Rows L2

/-! ### a law that does not look at its script -/
def spLawM (K : PySem.W.Frag) : Sp := fun vs H Q _ => ∃ (a : Addr) (ns : List Int), vs = [.ref a] ∧ SqL K H a (ns.map V.int) ∧ ns.length ≤ 63 ∧ ∀ H', Q (.bl true) H'
def okT : Res D → Bool
  | .ok d => (match d with | .bl b => b | _ => false)
  | _ => false
theorem okT_eq : ∀ {r : Res D}, okT r = true → r = .ok (.bl true)
  | .ok d, h => by
    cases d with
    | bl b => cases b with
      | true => rfl
      | false => cases h
    | _ => cases h
  | .exc _, h => nomatch h
  | .bad, h => nomatch h
theorem start_no {K : PySem.W.Frag} {H : Hp} {N : List Str} {vs : List V} {k : Nat} (hk : k = N.length) (hv : vs.length ≤ N.length) : StS K H H H (noL k) (L2.start N vs) H := by
  have own0 : ∀ (i : Nat) (l : List D), (noL k)[i]? = some (.own l) → False := fun i l h => by cases noL_get _ _ _ h
  refine ⟨⟨Same.refl _, ?_, fun i s h => ?_, fun i j l l' a h1 _ _ _ => (own0 i l h1).elim⟩, Ext.refl (Same.refl _), fun i l a h1 _ => (own0 i l h1).elim⟩
  · unfold L2.start
    simp [noL_len]
    omega
  · cases noL_get _ _ _ h
    trivial
section
variable {P : Program} {w : World} {K : PySem.W.Frag} {mg : Str → Option Value} {base : Heap} {cl : Nat → Value}
theorem fm_law {st : Stmt} {N : List Str} {k j : Nat} {B : CS} {f : Addr} {fd : FuncData} (F : Fun K "law" "law" st f fd) (S : FnScope N ["script"] (defScope st)) (hN : N.length = j + 1)
    (body : ∀ (cdv : Value) (A : Around) (outer : List PySem.Env) (s : Shared) (H : Hp) (E : XK) (Fz : Hp), Room k (bodyX P w K mg base N "law" st f cdv A outer s H E).A → PPSs (bodyX P w K mg base N "law" st f cdv A outer s H E) cl (WD E) Fz H (defBody st) B)
    (hB : okT (endD (B (noL (j + 1)))) = true) : FnOk P w K mg base (L2.CX P w) (k + 1) f fd ["script"] (spLawM K) := by
  refine F.okX S (fun vs H Q E ⟨a, ns, e, _⟩ => by subst e; rfl) fun cdv A outer s H vs Q E hr ⟨a, ns, e, _, _, q⟩ => ?_
  refine ⟨_, body cdv A outer s H E H hr, ?_⟩
  subst e
  refine ⟨H, noL (j + 1), start_no hN.symm (by rw [hN]; simp), ?_⟩
  have h := okT_eq hB
  unfold endD at h
  cases y : B (noL (j + 1)) with
  | rt d =>
    rw [y] at h
    cases z : d.solid with
    | false => simp only [z] at h; cases h
    | true =>
      simp only [z] at h
      cases h
      exact fun F' H' v x r => by cases r; exact q H'
  | nx e => rw [y] at h; cases h
  | exc c e => rw [y] at h; cases h
  | bk e => rw [y] at h; cases h
  | ct e => rw [y] at h; cases h
  | bad => rw [y] at h; cases h
end
/-- what is known of an own class of exceptions -/
structure Own (K : PySem.W.Frag) (mg : Str → Option Value) (x : Str) (C : Addr) (bm : List Value) (nw : String) : Prop where
  g : mg x = some (.ref C)
  x : PySem.W.excIn K C bm nw = true
  k : PySem.W.keepIn K (.ref C) = true
  b : PySem.W.subIn K (.ref C) (.type "BaseException") = some true
  t : PySem.W.typeIn K (.ref C) = some (.type "type")
theorem okx_never (w : World) (P : Program) (H : Hp) (s : Shared) (e : Value) (s' : Shared) (h : L2.CX P w [] H s (fun _ _ _ => False) e s') : False := by
  obtain ⟨_, _, _, _, _, _, _, _, _, _, _, _, h⟩ := h
  exact h
end M
namespace M
open PySem PySem.Spec PyProof.Rows L2

/-! ### a comprehension's block, by one look -/
def blkB (N : List Str) (sc scope : Scope) (own : List (Str × Nat)) : Bool :=
  (scope.names.all fun y => decide (scope.names.lookup y.1 = some y.2) &&
    ((match y.2 with
      | .free => decide (sc.names.lookup y.1 = some .cell) || decide (sc.names.lookup y.1 = some .free)
      | .local => (own.map (·.1)).contains y.1 || !(N.contains y.1)
      | .cell => (own.map (·.1)).contains y.1 || !(N.contains y.1)
      | _ => true))) && own.all fun p => decide (N[p.2]? = some p.1)
theorem blk_of {N : List Str} {sc scope : Scope} {own : List (Str × Nat)} (hk : scope.kind = .function) (h : blkB N sc scope own = true) : BlkOk N sc scope own := by
  unfold blkB at h
  rw [Bool.and_eq_true, List.all_eq_true, List.all_eq_true] at h
  obtain ⟨h1, h2⟩ := h
  refine ⟨hk, fun y hy => ?_, fun p hp => of_decide_eq_true (h2 p hp), fun y hy e => ?_, fun y hy e => ?_⟩
  · have := h1 y hy
    rw [Bool.and_eq_true] at this
    exact of_decide_eq_true this.1
  · have := h1 y hy
    rw [Bool.and_eq_true] at this
    have := this.2
    rw [e] at this
    simp only [Bool.or_eq_true, decide_eq_true_eq] at this
    exact this
  · have := h1 y hy
    rw [Bool.and_eq_true] at this
    have := this.2
    rcases e with e | e <;> rw [e] at this <;> simp only [Bool.or_eq_true, List.contains_iff_mem, Bool.not_eq_true', List.contains_eq_mem, decide_eq_true_eq, decide_eq_false_iff_not] at this <;> exact this
end M
namespace M
open PySem PySem.Spec PyProof.Rows L2
theorem alen0 : ∀ e l, aN e = .ok l → l.length = 0 := fun e l h => by cases h; rfl
theorem alenS {A : CE} {B : CA} {n : Nat} (h : ∀ e l, B e = .ok l → l.length = n) : ∀ e l, aC A B e = .ok l → l.length = n + 1 := fun e l q => by
  unfold aC at q
  cases z : A e with
  | exc c => rw [z] at q; cases q
  | bad => rw [z] at q; cases q
  | ok d =>
    rw [z] at q
    simp only [Res.bind] at q
    cases y : B e with
    | exc c => rw [y] at q; cases q
    | bad => rw [y] at q; cases q
    | ok k =>
      rw [y] at q
      simp only at q
      cases x : d.solid with
      | false => rw [x] at q; cases q
      | true => rw [x] at q; cases q; rw [List.length_cons, h e k y]
theorem kb_of {K : PySem.W.Frag} {x qual : Str} {st : Stmt} {f : Addr} {fd : FuncData} {ps ks : List Str} {ix : List Nat} {na : Nat} (F : Fun K x qual st f fd)
    (h : ∀ (kV doc pm : Value) (an : Option Addr) (cdv ct : Value) (s : Shared) (us ws : List Value), us.length = na → ws.length = ks.length → BindsTo s (PySem.W.fnOf x qual (defArgs st) (defBody st) (defScope st) .none kV doc pm an cdv ct) ⟨us, ks.zip ws⟩ (ps.zip (permL ix (us ++ ws)))) : KB K fd ps ks ix na := by
  obtain ⟨oc, od, kV, doc, pm, an, cdv, ct, osl, rfl, lk, hcd⟩ := F.ex
  exact fun s us ws h1 h2 => h kV doc pm an cdv ct s us ws h1 h2
theorem pp_gint {X : Cx} {cl : Nat → Value} {W : WX} {x : Str} {i : Int} {pos : Pos} (hg : Gl X x) (h : ∃ t, X.mg x = some (.int i t)) (hd : (x == ("__debug__" : Str)) = false := by decide) : PP X cl W (.Name x pos) (cC (.int i)) :=
  let ⟨_, h⟩ := h
  pp_glob (v := .int i) hg h ⟨_, rfl⟩ (fun _ => .int i) hd
theorem pp_gstr {X : Cx} {cl : Nat → Value} {W : WX} {x s : Str} {pos : Pos} (hg : Gl X x) (h : ∃ t, X.mg x = some (.str s t)) (hs : PySem.PyData.strOk s = true := by decide +kernel) (hd : (x == ("__debug__" : Str)) = false := by decide) : PP X cl W (.Name x pos) (cC (.str s)) :=
  let ⟨_, h⟩ := h
  pp_glob (v := .str s) hg h ⟨_, rfl⟩ (fun _ => .str s hs) hd
theorem kit_typ {K : PySem.W.Frag} {C : Addr} {T : String} {b : Bool} (h : PySem.W.kitMeta T = true) (e : PySem.W.subIn K (.ref C) (.type T) = some b) : PySem.W.kitOne K (.ref C) (.type T) = some b := by
  unfold PySem.W.kitOne
  rw [if_neg (show ¬ ((Value.ref C == Value.type T) = true) from fun h => nomatch h)]
  show (if PySem.W.kitMeta T = true then PySem.W.subIn K (.ref C) (.type T) else none) = some b
  rw [if_pos h, e]
end M
namespace Claim
open PySem PySem.Spec PyProof.Rows L2 M
/-! ### the text -/
def topS (i : Nat) : Stmt := PySem.Challenge.pw_picksuntold_k00_numbers_by_hand.main.body.getD i (.Pass ⟨0, 0, 0, 0⟩)
section
def clsOf (c0 : Addr) : Nat → Value
  | _ => .ref c0
def exm0 : Nat → Bool
  | _ => true
def isEValueError : Nat → Bool
  | _ => true
end
section
variable {c0 : Addr}
structure Tx0 (c0 : Addr) (K : PySem.W.Frag) (mg : Str → Option Value) : Prop where
  z_ValueError : mg "ValueError" = none
  z_abs : mg "abs" = none
  z_all : mg "all" = none
  z_bool : mg "bool" = none
  z_int : mg "int" = none
  z_isinstance : mg "isinstance" = none
  z_len : mg "len" = none
  z_list : mg "list" = none
  z_str : mg "str" = none
  z_tuple : mg "tuple" = none
  z_zip : mg "zip" = none
  k_PAIR : ∃ t, mg "PAIR" = some (.int 2 t)
  f_common_divisor : ∃ (f : Addr) (fd : FuncData), mg "common_divisor" = some (.ref f) ∧ Fun K "common_divisor" "common_divisor" (topS 7) f fd ∧ Binds K fd ["one", "other"] []
  f_fraction : ∃ (f : Addr) (fd : FuncData), mg "fraction" = some (.ref f) ∧ Fun K "fraction" "fraction" (topS 9) f fd ∧ Binds K fd ["top", "bottom"] []
  f_over : ∃ (f : Addr) (fd : FuncData), mg "over" = some (.ref f) ∧ Fun K "over" "over" (topS 13) f fd ∧ Binds K fd ["one", "other"] []
  f__law_heard : ∃ (f : Addr) (fd : FuncData), mg "_law_heard" = some (.ref f) ∧ Fun K "_law_heard" "_law_heard" (topS 24) f fd ∧ Binds K fd ["door", "one", "other"] []
  f__law_same : ∃ (f : Addr) (fd : FuncData), mg "_law_same" = some (.ref f) ∧ Fun K "_law_same" "_law_same" (topS 23) f fd ∧ Binds K fd ["got", "due"] []
  f_at_most : ∃ (f : Addr) (fd : FuncData), mg "at_most" = some (.ref f) ∧ Fun K "at_most" "at_most" (topS 14) f fd ∧ Binds K fd ["one", "other"] []
  f_plus : ∃ (f : Addr) (fd : FuncData), mg "plus" = some (.ref f) ∧ Fun K "plus" "plus" (topS 10) f fd ∧ Binds K fd ["one", "other"] []
  f_less : ∃ (f : Addr) (fd : FuncData), mg "less" = some (.ref f) ∧ Fun K "less" "less" (topS 11) f fd ∧ Binds K fd ["one", "other"] []
  f_rest_of : ∃ (f : Addr) (fd : FuncData), mg "rest_of" = some (.ref f) ∧ Fun K "rest_of" "rest_of" (topS 20) f fd ∧ Binds K fd ["share"] []
  f_times : ∃ (f : Addr) (fd : FuncData), mg "times" = some (.ref f) ∧ Fun K "times" "times" (topS 12) f fd ∧ Binds K fd ["one", "other"] []
  f_between : ∃ (f : Addr) (fd : FuncData), mg "between" = some (.ref f) ∧ Fun K "between" "between" (topS 21) f fd ∧ Binds K fd ["one", "other", "share"] []
  f_common_bottom : ∃ (f : Addr) (fd : FuncData), mg "common_bottom" = some (.ref f) ∧ Fun K "common_bottom" "common_bottom" (topS 18) f fd ∧ Binds K fd ["fractions"] []
  f_greatest_of : ∃ (f : Addr) (fd : FuncData), mg "greatest_of" = some (.ref f) ∧ Fun K "greatest_of" "greatest_of" (topS 16) f fd ∧ Binds K fd ["fractions"] []
  f_is_number : ∃ (f : Addr) (fd : FuncData), mg "is_number" = some (.ref f) ∧ Fun K "is_number" "is_number" (topS 3) f fd ∧ Binds K fd ["thing"] []
  f_is_tuple_of : ∃ (f : Addr) (fd : FuncData), mg "is_tuple_of" = some (.ref f) ∧ Fun K "is_tuple_of" "is_tuple_of" (topS 4) f fd ∧ Binds K fd ["thing", "length"] []
  f_is_fraction : ∃ (f : Addr) (fd : FuncData), mg "is_fraction" = some (.ref f) ∧ Fun K "is_fraction" "is_fraction" (topS 8) f fd ∧ Binds K fd ["thing"] []
  f_least_of : ∃ (f : Addr) (fd : FuncData), mg "least_of" = some (.ref f) ∧ Fun K "least_of" "least_of" (topS 15) f fd ∧ Binds K fd ["fractions"] []
  f_sum_of : ∃ (f : Addr) (fd : FuncData), mg "sum_of" = some (.ref f) ∧ Fun K "sum_of" "sum_of" (topS 17) f fd ∧ Binds K fd ["fractions"] []
  f_whole_tops : ∃ (f : Addr) (fd : FuncData), mg "whole_tops" = some (.ref f) ∧ Fun K "whole_tops" "whole_tops" (topS 19) f fd ∧ Binds K fd ["fractions"] []
  o_Unfit : Own K mg "Unfit" c0 [.type "ValueError", .type "Exception", .type "BaseException", .type "object"] "ValueError.__new__"
  ex_Unfit : ExF K (clsOf c0) (.ref c0) exm0
  is_ValueError : ExI K (clsOf c0) "ValueError" isEValueError
variable {P : Program} {w : World} {K : PySem.W.Frag} {mg : Str → Option Value} {base : Heap}
/-! common_divisor -/
theorem sc_common_divisor : FnScope ["one", "other"] ["one", "other"] (defScope (topS 7)) := ⟨rfl, rfl, rfl, by decide +kernel, rfl, by decide +kernel, by decide +kernel⟩
def b_common_divisor : CS := (sSeq (sWhl (tV (c2 neD (cV 1) (cC (.int 0)))) (sPar 0 1 (aC (cV 1) (aC (c2 modD (cV 0) (cV 1)) aN))) 100000)
    (sRet (c1 absD (cV 0))))
def m_common_divisor : List D → Res D := cDef 2 0 b_common_divisor
theorem solid_common_divisor : Solid m_common_divisor := solid_def _ _ _
theorem fm_common_divisor (T : Tx0 c0 K mg) : Fm P w K mg base (clsOf c0) 1 "common_divisor" (topS 7) ["one", "other"] m_common_divisor := by
  obtain ⟨f, fd, h1, h2, h3⟩ := T.f_common_divisor
  exact fm_def (k := 0) h2 sc_common_divisor h1 h3 rfl rfl fun cdv A outer s H E Fz hr => (ppss_cons (pps_while 100000 (passes_of rfl) (ppt_cmp (op_neP hr.units) (pp_pv 1) pp_int (nomark _)) (ppss_one (pps_par (i := 0) (j := 1) rfl sc_common_divisor.nd rfl rfl (by decide) rfl rfl (ppa_cons (pp_pv 1) (ppa_cons (pp_op op_modP (pp_pv 0) (pp_pv 1)) ppa_nil)) (by rfl))))
    (ppss_one (pps_ret (pp_b1 call_absP rfl T.z_abs rfl (pp_pv 0)))))
/-! fraction -/
theorem sc_fraction : FnScope ["top", "bottom", "common"] ["top", "bottom"] (defScope (topS 9)) := ⟨rfl, rfl, rfl, by decide +kernel, rfl, by decide +kernel, by decide +kernel⟩
def b_fraction : CS := (sSeq (sIf (tV (c2 eqD (cV 1) (cC (.int 0)))) (sRaise 0) sNx)
    (sSeq (sSet 2 (cCall m_common_divisor (aC (cV 0) (aC (cV 1) aN))))
    (sSeq (sSet 2 (cIf (tV (c2 gtD (cV 1) (cC (.int 0)))) (cV 2) (c1 negD (cV 2))))
    (sRet (cTup (aC (c2 divD (cV 0) (cV 2)) (aC (c2 divD (cV 1) (cV 2)) aN)))))))
def m_fraction : List D → Res D := cDef 2 1 b_fraction
theorem solid_fraction : Solid m_fraction := solid_def _ _ _
theorem fm_fraction (T : Tx0 c0 K mg) : Fm P w K mg base (clsOf c0) 2 "fraction" (topS 9) ["top", "bottom"] m_fraction := by
  obtain ⟨f, fd, h1, h2, h3⟩ := T.f_fraction
  exact fm_def (k := 1) h2 sc_fraction h1 h3 rfl rfl fun cdv A outer s H E Fz hr => (ppss_cons (pps_if (ppt_cmp (op_eqP hr.units) (pp_pv 1) pp_int (nomark _)) (ppss_one (pps_raise (c := 0) rfl (takes_of rfl rfl rfl rfl) (pmk_own0 PySem.F.excBase_ValueError T.o_Unfit.x T.o_Unfit.g T.o_Unfit.k (raises_own T.o_Unfit.b T.o_Unfit.t) rfl))) ppss_nil)
    (ppss_cons (pps_set (i := 2) sc_fraction.nd rfl (by first | exact .inl rfl | exact .inr rfl) (pp_call (fm_common_divisor T) solid_common_divisor (hr.mono (by decide)) (takes_of rfl rfl rfl rfl) rfl (ppa_cons (pp_pv 0) (ppa_cons (pp_pv 1) ppa_nil))))
    (ppss_cons (pps_set (i := 2) sc_fraction.nd rfl (by first | exact .inl rfl | exact .inr rfl) (pp_if (ppt_cmp op_gtP (pp_pv 1) pp_int (nomark _)) (pp_pv 2) (pp_un un_negP (pp_pv 2))))
    (ppss_one (pps_ret (pp_tup (ppa_cons (pp_op op_divP (pp_pv 0) (pp_pv 2)) (ppa_cons (pp_op op_divP (pp_pv 1) (pp_pv 2)) ppa_nil))))))))
/-! over -/
theorem sc_over : FnScope ["one", "other"] ["one", "other"] (defScope (topS 13)) := ⟨rfl, rfl, rfl, by decide +kernel, rfl, by decide +kernel, by decide +kernel⟩
def b_over : CS := (sRet (cCall m_fraction (aC (c2 mulD (c2 ixD (cV 0) (cC (.int 0))) (c2 ixD (cV 1) (cC (.int 1)))) (aC (c2 mulD (c2 ixD (cV 0) (cC (.int 1))) (c2 ixD (cV 1) (cC (.int 0)))) aN))))
def m_over : List D → Res D := cDef 2 0 b_over
theorem solid_over : Solid m_over := solid_def _ _ _
theorem fm_over (T : Tx0 c0 K mg) : Fm P w K mg base (clsOf c0) 3 "over" (topS 13) ["one", "other"] m_over := by
  obtain ⟨f, fd, h1, h2, h3⟩ := T.f_over
  exact fm_def (k := 2) h2 sc_over h1 h3 rfl rfl fun cdv A outer s H E Fz hr => (ppss_one (pps_ret (pp_call (fm_fraction T) solid_fraction (hr.mono (by decide)) (takes_of rfl rfl rfl rfl) rfl (ppa_cons (pp_op op_mulP (pp_ix (pp_pv 0) pp_int) (pp_ix (pp_pv 1) pp_int)) (ppa_cons (pp_op op_mulP (pp_ix (pp_pv 0) pp_int) (pp_ix (pp_pv 1) pp_int)) ppa_nil)))))
/-! _law_heard -/
theorem sc__law_heard : FnScope ["door", "one", "other", "told", "error"] ["door", "one", "other"] (defScope (topS 24)) := ⟨rfl, rfl, rfl, by decide +kernel, rfl, by decide +kernel, by decide +kernel⟩
def b__law_heard : CS := (sSeq (sSet 3 (cC .non))
    (sSeq (tryC (sSet 3 (cIf (tV (c2 eqD (cV 0) (cC (.int 0)))) (cCall m_fraction (aC (cV 1) (aC (cV 2) aN))) (cCall m_over (aC (cV 1) (aC (cV 2) aN))))) (exm0) fun c e => inE 4 e (.nx ((e.set 3 (.dat (lstE "unfit" isEValueError c))).set 4 .no)))
    (sRet (cV 3))))
def m__law_heard : List D → Res D := cDef 3 2 b__law_heard
theorem solid__law_heard : Solid m__law_heard := solid_def _ _ _
theorem fm__law_heard (T : Tx0 c0 K mg) : Fm P w K mg base (clsOf c0) 4 "_law_heard" (topS 24) ["door", "one", "other"] m__law_heard := by
  obtain ⟨f, fd, h1, h2, h3⟩ := T.f__law_heard
  exact fm_def (k := 3) h2 sc__law_heard h1 h3 rfl rfl fun cdv A outer s H E Fz hr => (ppss_cons (pps_set (i := 3) sc__law_heard.nd rfl (by first | exact .inl rfl | exact .inr rfl) pp_non)
    (ppss_cons (pps_tryA (i := 4) (j := 3) (exm := exm0) (isE := isEValueError) rfl rfl sc__law_heard.nd rfl rfl rfl (.inl rfl) (by decide) ⟨rfl, by decide, .inl T.o_Unfit.g⟩ (takes_of rfl rfl rfl rfl) T.ex_Unfit T.is_ValueError rfl T.z_isinstance rfl T.z_ValueError rfl (fun _ _ _ tk hp => (ppss_one (pps_set (i := 3) sc__law_heard.nd rfl (by first | exact .inl rfl | exact .inr rfl) (pp_if (ppt_cmp (op_eqP hr.units) (pp_pv 0) pp_int (nomark _)) (pp_call (fm_fraction T) solid_fraction (hr.mono (by decide)) tk rfl (ppa_cons (pp_pv 1) (ppa_cons (pp_pv 2) ppa_nil))) (pp_call (fm_over T) solid_over (hr.mono (by decide)) tk rfl (ppa_cons (pp_pv 1) (ppa_cons (pp_pv 2) ppa_nil))))))))
    (ppss_one (pps_ret (pp_pv 3)))))
/-! _law_same -/
theorem sc__law_same : FnScope ["got", "due", "mine", "its"] ["got", "due"] (defScope (topS 23)) := ⟨rfl, rfl, rfl, by decide +kernel, rfl, by decide +kernel, by decide +kernel⟩
def b__law_same (m : List D → Res D) : CS := (sSeq (sIf (tV (c1 (isiTD [.list, .tuple]) (cV 1))) (sSeq (sIf (tOr (tV (c2 neD (c1 (isiD .list) (cV 0)) (c1 (isiD .list) (cV 1)))) (tV (c2 neD (c1 (isiD .tuple) (cV 0)) (c1 (isiD .tuple) (cV 1))))) (sRet (cC (.bl false))) sNx)
    (sRet (cAnd (c2 eqD (c1 lenD (cV 0)) (c1 lenD (cV 1))) (c1 allD (cN (nLc (iR zipD (aC (cV 0) (aC (cV 1) aN))) [2, 3] (gT (gsC (gN 2) (gsC (gN 3) gsN))) tYesC (cCall m (aC (cV 2) (aC (cV 3) aN))))))))) sNx)
    (sSeq (sIf (tOr (tV (c1 isNonD (cV 1))) (tV (c1 (isiTD [.bool, .str]) (cV 1)))) (sRet (cAnd (c2 eqD (cV 0) (cV 1)) (cAnd (c2 eqD (c1 (isiD .bool) (cV 0)) (c1 (isiD .bool) (cV 1))) (c2 eqD (c1 isNonD (cV 0)) (c1 isNonD (cV 1)))))) sNx)
    (sRet (cAnd (c1 (isiD .int) (cV 0)) (cAnd (cNot (c1 (isiD .bool) (cV 0))) (c2 eqD (cV 0) (cV 1)))))))
def m__law_same : Nat → List D → Res D
  | 0 => fun _ => .bad
  | j + 1 => cDef 2 2 (b__law_same (m__law_same j))
theorem solid__law_same : ∀ j, Solid (m__law_same j)
  | 0 => solid_bad
  | _ + 1 => solid_def _ _ _
theorem st__law_same (T : Tx0 c0 K mg) {k : Nat} (hk : 0 ≤ k) {m : List D → Res D} (hm : Solid m) (ih : Fm P w K mg base (clsOf c0) k "_law_same" (topS 23) ["got", "due"] m) : Fm P w K mg base (clsOf c0) (k + 1) "_law_same" (topS 23) ["got", "due"] (cDef 2 2 (b__law_same m)) := by
  obtain ⟨f, fd, h1, h2, h3⟩ := T.f__law_same
  exact fm_def (k := k) h2 sc__law_same h1 h3 rfl rfl fun cdv A outer s H E Fz hr => (ppss_cons (pps_if (ppt_val (pp_isi2 (t1 := .list) (t2 := .tuple) rfl T.z_isinstance rfl T.z_list rfl rfl T.z_tuple rfl (pp_pv 1))) (ppss_cons (pps_if (PPW.pt (ppw_or (ppt_cmp (op_neP hr.units) (pp_isi (t := .list) rfl T.z_isinstance rfl T.z_list rfl (pp_pv 0)) (pp_isi (t := .list) rfl T.z_isinstance rfl T.z_list rfl (pp_pv 1)) (nomark _)) (ppw_or1 (ppt_cmp (op_neP hr.units) (pp_isi (t := .tuple) rfl T.z_isinstance rfl T.z_tuple rfl (pp_pv 0)) (pp_isi (t := .tuple) rfl T.z_isinstance rfl T.z_tuple rfl (pp_pv 1)) (nomark _))))) (ppss_one (pps_ret pp_bl)) ppss_nil)
    (ppss_one (pps_ret (pp_and (pp_cmp (op_eqP hr.units) (pp_b1 call_lenP rfl T.z_len rfl (pp_pv 0)) (pp_b1 call_lenP rfl T.z_len rfl (pp_pv 1)) (nomark _)) (pp_one (pp_b1 (call_allP rfl) rfl T.z_all rfl (PPN.pp (ppn_lc (own := [("mine", 2), ("its", 3)]) rfl sc__law_same.nd (ppi_zip rfl T.z_zip (ppa_cons (pp_pv 0) (ppa_cons (pp_pv 1) ppa_nil))) (blk_of rfl (by rfl)) (fun _ _ _ _ _ => (ppgw_tup rfl (ppgws_cons (ppgw_name (i := 2) sc__law_same.nd rfl (by first | exact .inl rfl | exact .inr rfl) (by decide)) (ppgws_cons (ppgw_name (i := 3) sc__law_same.nd rfl (by first | exact .inl rfl | exact .inr rfl) (by decide)) ppgws_nil)))) (fun _ _ _ _ _ => ppts_nil) (fun _ _ _ _ _ => (pp_call ih hm hr takes0 rfl (ppa_cons (pp_pv 2) (ppa_cons (pp_pv 3) ppa_nil)))))))))))) ppss_nil)
    (ppss_cons (pps_if (PPW.pt (ppw_or (ppt_isN (pp_pv 1)) (ppw_or1 (ppt_val (pp_isi2 (t1 := .bool) (t2 := .str) rfl T.z_isinstance rfl T.z_bool rfl rfl T.z_str rfl (pp_pv 1)))))) (ppss_one (pps_ret (pp_and (pp_cmp (op_eqP hr.units) (pp_pv 0) (pp_pv 1) (nomark _)) (pp_and (pp_cmp (op_eqP hr.units) (pp_isi (t := .bool) rfl T.z_isinstance rfl T.z_bool rfl (pp_pv 0)) (pp_isi (t := .bool) rfl T.z_isinstance rfl T.z_bool rfl (pp_pv 1)) (nomark _)) (pp_one (pp_cmp (op_eqP hr.units) (pp_isN (pp_pv 0)) (pp_isN (pp_pv 1)) (nomark _))))))) ppss_nil)
    (ppss_one (pps_ret (pp_and (pp_isi (t := .int) rfl T.z_isinstance rfl T.z_int rfl (pp_pv 0)) (pp_and (pp_not (pp_isi (t := .bool) rfl T.z_isinstance rfl T.z_bool rfl (pp_pv 0))) (pp_one (pp_cmp (op_eqP hr.units) (pp_pv 0) (pp_pv 1) (nomark _)))))))))
theorem fm__law_same (T : Tx0 c0 K mg) : ∀ j, Fm P w K mg base (clsOf c0) (0 + j) "_law_same" (topS 23) ["got", "due"] (m__law_same j) := fm_rec (by obtain ⟨f, fd, h1, h2, h3⟩ := T.f__law_same; exact fm_bad h2 h1 h3) fun j ih => st__law_same T (by omega) (solid__law_same j) ih
/-! at_most -/
theorem sc_at_most : FnScope ["one", "other"] ["one", "other"] (defScope (topS 14)) := ⟨rfl, rfl, rfl, by decide +kernel, rfl, by decide +kernel, by decide +kernel⟩
def b_at_most : CS := (sRet (c2 leD (c2 mulD (c2 ixD (cV 0) (cC (.int 0))) (c2 ixD (cV 1) (cC (.int 1)))) (c2 mulD (c2 ixD (cV 1) (cC (.int 0))) (c2 ixD (cV 0) (cC (.int 1))))))
def m_at_most : List D → Res D := cDef 2 0 b_at_most
theorem solid_at_most : Solid m_at_most := solid_def _ _ _
theorem fm_at_most (T : Tx0 c0 K mg) : Fm P w K mg base (clsOf c0) 1 "at_most" (topS 14) ["one", "other"] m_at_most := by
  obtain ⟨f, fd, h1, h2, h3⟩ := T.f_at_most
  exact fm_def (k := 0) h2 sc_at_most h1 h3 rfl rfl fun cdv A outer s H E Fz hr => (ppss_one (pps_ret (pp_cmp op_leP (pp_op op_mulP (pp_ix (pp_pv 0) pp_int) (pp_ix (pp_pv 1) pp_int)) (pp_op op_mulP (pp_ix (pp_pv 1) pp_int) (pp_ix (pp_pv 0) pp_int)) (nomark _))))
/-! plus -/
theorem sc_plus : FnScope ["one", "other"] ["one", "other"] (defScope (topS 10)) := ⟨rfl, rfl, rfl, by decide +kernel, rfl, by decide +kernel, by decide +kernel⟩
def b_plus : CS := (sRet (cCall m_fraction (aC (c2 addD (c2 mulD (c2 ixD (cV 0) (cC (.int 0))) (c2 ixD (cV 1) (cC (.int 1)))) (c2 mulD (c2 ixD (cV 1) (cC (.int 0))) (c2 ixD (cV 0) (cC (.int 1))))) (aC (c2 mulD (c2 ixD (cV 0) (cC (.int 1))) (c2 ixD (cV 1) (cC (.int 1)))) aN))))
def m_plus : List D → Res D := cDef 2 0 b_plus
theorem solid_plus : Solid m_plus := solid_def _ _ _
theorem fm_plus (T : Tx0 c0 K mg) : Fm P w K mg base (clsOf c0) 3 "plus" (topS 10) ["one", "other"] m_plus := by
  obtain ⟨f, fd, h1, h2, h3⟩ := T.f_plus
  exact fm_def (k := 2) h2 sc_plus h1 h3 rfl rfl fun cdv A outer s H E Fz hr => (ppss_one (pps_ret (pp_call (fm_fraction T) solid_fraction (hr.mono (by decide)) (takes_of rfl rfl rfl rfl) rfl (ppa_cons (pp_op op_addP (pp_op op_mulP (pp_ix (pp_pv 0) pp_int) (pp_ix (pp_pv 1) pp_int)) (pp_op op_mulP (pp_ix (pp_pv 1) pp_int) (pp_ix (pp_pv 0) pp_int))) (ppa_cons (pp_op op_mulP (pp_ix (pp_pv 0) pp_int) (pp_ix (pp_pv 1) pp_int)) ppa_nil)))))
/-! less -/
theorem sc_less : FnScope ["one", "other"] ["one", "other"] (defScope (topS 11)) := ⟨rfl, rfl, rfl, by decide +kernel, rfl, by decide +kernel, by decide +kernel⟩
def b_less : CS := (sRet (cCall m_fraction (aC (c2 subD (c2 mulD (c2 ixD (cV 0) (cC (.int 0))) (c2 ixD (cV 1) (cC (.int 1)))) (c2 mulD (c2 ixD (cV 1) (cC (.int 0))) (c2 ixD (cV 0) (cC (.int 1))))) (aC (c2 mulD (c2 ixD (cV 0) (cC (.int 1))) (c2 ixD (cV 1) (cC (.int 1)))) aN))))
def m_less : List D → Res D := cDef 2 0 b_less
theorem solid_less : Solid m_less := solid_def _ _ _
theorem fm_less (T : Tx0 c0 K mg) : Fm P w K mg base (clsOf c0) 3 "less" (topS 11) ["one", "other"] m_less := by
  obtain ⟨f, fd, h1, h2, h3⟩ := T.f_less
  exact fm_def (k := 2) h2 sc_less h1 h3 rfl rfl fun cdv A outer s H E Fz hr => (ppss_one (pps_ret (pp_call (fm_fraction T) solid_fraction (hr.mono (by decide)) (takes_of rfl rfl rfl rfl) rfl (ppa_cons (pp_op op_subP (pp_op op_mulP (pp_ix (pp_pv 0) pp_int) (pp_ix (pp_pv 1) pp_int)) (pp_op op_mulP (pp_ix (pp_pv 1) pp_int) (pp_ix (pp_pv 0) pp_int))) (ppa_cons (pp_op op_mulP (pp_ix (pp_pv 0) pp_int) (pp_ix (pp_pv 1) pp_int)) ppa_nil)))))
/-! rest_of -/
theorem sc_rest_of : FnScope ["share"] ["share"] (defScope (topS 20)) := ⟨rfl, rfl, rfl, by decide +kernel, rfl, by decide +kernel, by decide +kernel⟩
def b_rest_of : CS := (sRet (cCall m_less (aC (cTup (aC (cC (.int 1)) (aC (cC (.int 1)) aN))) (aC (cV 0) aN))))
def m_rest_of : List D → Res D := cDef 1 0 b_rest_of
theorem solid_rest_of : Solid m_rest_of := solid_def _ _ _
theorem fm_rest_of (T : Tx0 c0 K mg) : Fm P w K mg base (clsOf c0) 4 "rest_of" (topS 20) ["share"] m_rest_of := by
  obtain ⟨f, fd, h1, h2, h3⟩ := T.f_rest_of
  exact fm_def (k := 3) h2 sc_rest_of h1 h3 rfl rfl fun cdv A outer s H E Fz hr => (ppss_one (pps_ret (pp_call (fm_less T) solid_less (hr.mono (by decide)) (takes_of rfl rfl rfl rfl) rfl (ppa_cons (pp_tup (ppa_cons pp_int (ppa_cons pp_int ppa_nil))) (ppa_cons (pp_pv 0) ppa_nil)))))
/-! times -/
theorem sc_times : FnScope ["one", "other"] ["one", "other"] (defScope (topS 12)) := ⟨rfl, rfl, rfl, by decide +kernel, rfl, by decide +kernel, by decide +kernel⟩
def b_times : CS := (sRet (cCall m_fraction (aC (c2 mulD (c2 ixD (cV 0) (cC (.int 0))) (c2 ixD (cV 1) (cC (.int 0)))) (aC (c2 mulD (c2 ixD (cV 0) (cC (.int 1))) (c2 ixD (cV 1) (cC (.int 1)))) aN))))
def m_times : List D → Res D := cDef 2 0 b_times
theorem solid_times : Solid m_times := solid_def _ _ _
theorem fm_times (T : Tx0 c0 K mg) : Fm P w K mg base (clsOf c0) 3 "times" (topS 12) ["one", "other"] m_times := by
  obtain ⟨f, fd, h1, h2, h3⟩ := T.f_times
  exact fm_def (k := 2) h2 sc_times h1 h3 rfl rfl fun cdv A outer s H E Fz hr => (ppss_one (pps_ret (pp_call (fm_fraction T) solid_fraction (hr.mono (by decide)) (takes_of rfl rfl rfl rfl) rfl (ppa_cons (pp_op op_mulP (pp_ix (pp_pv 0) pp_int) (pp_ix (pp_pv 1) pp_int)) (ppa_cons (pp_op op_mulP (pp_ix (pp_pv 0) pp_int) (pp_ix (pp_pv 1) pp_int)) ppa_nil)))))
/-! between -/
theorem sc_between : FnScope ["one", "other", "share"] ["one", "other", "share"] (defScope (topS 21)) := ⟨rfl, rfl, rfl, by decide +kernel, rfl, by decide +kernel, by decide +kernel⟩
def b_between : CS := (sRet (cCall m_plus (aC (cCall m_times (aC (cV 0) (aC (cV 2) aN))) (aC (cCall m_times (aC (cV 1) (aC (cCall m_rest_of (aC (cV 2) aN)) aN))) aN))))
def m_between : List D → Res D := cDef 3 0 b_between
theorem solid_between : Solid m_between := solid_def _ _ _
theorem fm_between (T : Tx0 c0 K mg) : Fm P w K mg base (clsOf c0) 5 "between" (topS 21) ["one", "other", "share"] m_between := by
  obtain ⟨f, fd, h1, h2, h3⟩ := T.f_between
  exact fm_def (k := 4) h2 sc_between h1 h3 rfl rfl fun cdv A outer s H E Fz hr => (ppss_one (pps_ret (pp_call (fm_plus T) solid_plus (hr.mono (by decide)) (takes_of rfl rfl rfl rfl) rfl (ppa_cons (pp_call (fm_times T) solid_times (hr.mono (by decide)) (takes_of rfl rfl rfl rfl) rfl (ppa_cons (pp_pv 0) (ppa_cons (pp_pv 2) ppa_nil))) (ppa_cons (pp_call (fm_times T) solid_times (hr.mono (by decide)) (takes_of rfl rfl rfl rfl) rfl (ppa_cons (pp_pv 1) (ppa_cons (pp_call (fm_rest_of T) solid_rest_of (hr.mono (by decide)) (takes_of rfl rfl rfl rfl) rfl (ppa_cons (pp_pv 2) ppa_nil)) ppa_nil))) ppa_nil)))))
/-! common_bottom -/
theorem sc_common_bottom : FnScope ["fractions", "found", "_", "bottom"] ["fractions"] (defScope (topS 18)) := ⟨rfl, rfl, rfl, by decide +kernel, rfl, by decide +kernel, by decide +kernel⟩
def b_common_bottom : CS := (sSeq (sSet 1 (cC (.int 1)))
    (sSeq (sFor (iA (cV 0)) (gT (gsC (gN 2) (gsC (gN 3) gsN))) (sSet 1 (c2 divD (c2 mulD (cV 1) (cV 3)) (cCall m_common_divisor (aC (cV 1) (aC (cV 3) aN))))))
    (sRet (cV 1))))
def m_common_bottom : List D → Res D := cDef 1 3 b_common_bottom
theorem solid_common_bottom : Solid m_common_bottom := solid_def _ _ _
theorem fm_common_bottom (T : Tx0 c0 K mg) : Fm P w K mg base (clsOf c0) 2 "common_bottom" (topS 18) ["fractions"] m_common_bottom := by
  obtain ⟨f, fd, h1, h2, h3⟩ := T.f_common_bottom
  exact fm_def (k := 1) h2 sc_common_bottom h1 h3 rfl rfl fun cdv A outer s H E Fz hr => (ppss_cons (pps_set (i := 1) sc_common_bottom.nd rfl (by first | exact .inl rfl | exact .inr rfl) pp_int)
    (ppss_cons (pps_for (passes_of rfl) rfl (ppi_seq (pp_pv 0)) (ppg_tup rfl (ppgs_cons (ppg_name (i := 2) sc_common_bottom.nd rfl (by first | exact .inl rfl | exact .inr rfl)) (ppgs_cons (ppg_name (i := 3) sc_common_bottom.nd rfl (by first | exact .inl rfl | exact .inr rfl)) ppgs_nil))) (ppss_one (pps_set (i := 1) sc_common_bottom.nd rfl (by first | exact .inl rfl | exact .inr rfl) (pp_op op_divP (pp_op op_mulP (pp_pv 1) (pp_pv 3)) (pp_call (fm_common_divisor T) solid_common_divisor (hr.mono (by decide)) (takes_of rfl rfl rfl rfl) rfl (ppa_cons (pp_pv 1) (ppa_cons (pp_pv 3) ppa_nil)))))))
    (ppss_one (pps_ret (pp_pv 1)))))
/-! greatest_of -/
theorem sc_greatest_of : FnScope ["fractions", "found", "own"] ["fractions"] (defScope (topS 16)) := ⟨rfl, rfl, rfl, by decide +kernel, rfl, by decide +kernel, by decide +kernel⟩
def b_greatest_of : CS := (sSeq (sSet 1 (c2 ixD (cV 0) (cC (.int 0))))
    (sSeq (sFor (iA (cV 0)) (gN 2) (sSet 1 (cIf (tV (cCall m_at_most (aC (cV 2) (aC (cV 1) aN)))) (cV 1) (cV 2))))
    (sRet (c1 tupleD (cV 1)))))
def m_greatest_of : List D → Res D := cDef 1 2 b_greatest_of
theorem solid_greatest_of : Solid m_greatest_of := solid_def _ _ _
theorem fm_greatest_of (T : Tx0 c0 K mg) : Fm P w K mg base (clsOf c0) 2 "greatest_of" (topS 16) ["fractions"] m_greatest_of := by
  obtain ⟨f, fd, h1, h2, h3⟩ := T.f_greatest_of
  exact fm_def (k := 1) h2 sc_greatest_of h1 h3 rfl rfl fun cdv A outer s H E Fz hr => (ppss_cons (pps_set (i := 1) sc_greatest_of.nd rfl (by first | exact .inl rfl | exact .inr rfl) (pp_ix (pp_pv 0) pp_int))
    (ppss_cons (pps_for (passes_of rfl) rfl (ppi_seq (pp_pv 0)) (ppg_name (i := 2) sc_greatest_of.nd rfl (by first | exact .inl rfl | exact .inr rfl)) (ppss_one (pps_set (i := 1) sc_greatest_of.nd rfl (by first | exact .inl rfl | exact .inr rfl) (pp_if (ppt_val (pp_call (fm_at_most T) solid_at_most (hr.mono (by decide)) (takes_of rfl rfl rfl rfl) rfl (ppa_cons (pp_pv 2) (ppa_cons (pp_pv 1) ppa_nil)))) (pp_pv 1) (pp_pv 2)))))
    (ppss_one (pps_ret (pp_ty1 call_tupleP rfl T.z_tuple rfl (pp_pv 1))))))
/-! is_number -/
theorem sc_is_number : FnScope ["thing"] ["thing"] (defScope (topS 3)) := ⟨rfl, rfl, rfl, by decide +kernel, rfl, by decide +kernel, by decide +kernel⟩
def b_is_number : CS := (sRet (cAnd (c1 (isiD .int) (cV 0)) (cNot (c1 (isiD .bool) (cV 0)))))
def m_is_number : List D → Res D := cDef 1 0 b_is_number
theorem solid_is_number : Solid m_is_number := solid_def _ _ _
theorem fm_is_number (T : Tx0 c0 K mg) : Fm P w K mg base (clsOf c0) 1 "is_number" (topS 3) ["thing"] m_is_number := by
  obtain ⟨f, fd, h1, h2, h3⟩ := T.f_is_number
  exact fm_def (k := 0) h2 sc_is_number h1 h3 rfl rfl fun cdv A outer s H E Fz hr => (ppss_one (pps_ret (pp_and (pp_isi (t := .int) rfl T.z_isinstance rfl T.z_int rfl (pp_pv 0)) (pp_one (pp_not (pp_isi (t := .bool) rfl T.z_isinstance rfl T.z_bool rfl (pp_pv 0)))))))
/-! is_tuple_of -/
theorem sc_is_tuple_of : FnScope ["thing", "length"] ["thing", "length"] (defScope (topS 4)) := ⟨rfl, rfl, rfl, by decide +kernel, rfl, by decide +kernel, by decide +kernel⟩
def b_is_tuple_of : CS := (sRet (cAnd (c1 (isiD .tuple) (cV 0)) (c2 eqD (c1 lenD (cV 0)) (cV 1))))
def m_is_tuple_of : List D → Res D := cDef 2 0 b_is_tuple_of
theorem solid_is_tuple_of : Solid m_is_tuple_of := solid_def _ _ _
theorem fm_is_tuple_of (T : Tx0 c0 K mg) : Fm P w K mg base (clsOf c0) 1 "is_tuple_of" (topS 4) ["thing", "length"] m_is_tuple_of := by
  obtain ⟨f, fd, h1, h2, h3⟩ := T.f_is_tuple_of
  exact fm_def (k := 0) h2 sc_is_tuple_of h1 h3 rfl rfl fun cdv A outer s H E Fz hr => (ppss_one (pps_ret (pp_and (pp_isi (t := .tuple) rfl T.z_isinstance rfl T.z_tuple rfl (pp_pv 0)) (pp_one (pp_cmp (op_eqP hr.units) (pp_b1 call_lenP rfl T.z_len rfl (pp_pv 0)) (pp_pv 1) (nomark _))))))
/-! is_fraction -/
theorem sc_is_fraction : FnScope ["thing"] ["thing"] (defScope (topS 8)) := ⟨rfl, rfl, rfl, by decide +kernel, rfl, by decide +kernel, by decide +kernel⟩
def b_is_fraction : CS := (sSeq (sIf (tOr (tNot (tV (cCall m_is_tuple_of (aC (cV 0) (aC (cC (.int 2)) aN))))) (tOr (tNot (tV (cCall m_is_number (aC (c2 ixD (cV 0) (cC (.int 0))) aN)))) (tOr (tNot (tV (cCall m_is_number (aC (c2 ixD (cV 0) (cC (.int 1))) aN)))) (tV (c2 ltD (c2 ixD (cV 0) (cC (.int 1))) (cC (.int 1))))))) (sRet (cC (.bl false))) sNx)
    (sRet (c2 eqD (cCall m_common_divisor (aC (c2 ixD (cV 0) (cC (.int 0))) (aC (c2 ixD (cV 0) (cC (.int 1))) aN))) (cC (.int 1)))))
def m_is_fraction : List D → Res D := cDef 1 0 b_is_fraction
theorem solid_is_fraction : Solid m_is_fraction := solid_def _ _ _
theorem fm_is_fraction (T : Tx0 c0 K mg) : Fm P w K mg base (clsOf c0) 2 "is_fraction" (topS 8) ["thing"] m_is_fraction := by
  obtain ⟨f, fd, h1, h2, h3⟩ := T.f_is_fraction
  exact fm_def (k := 1) h2 sc_is_fraction h1 h3 rfl rfl fun cdv A outer s H E Fz hr => (ppss_cons (pps_if (PPW.pt (ppw_or (ppt_not (ppt_val (pp_call (fm_is_tuple_of T) solid_is_tuple_of (hr.mono (by decide)) (takes_of rfl rfl rfl rfl) rfl (ppa_cons (pp_pv 0) (ppa_cons (pp_gint rfl T.k_PAIR) ppa_nil))))) (ppw_or (ppt_not (ppt_val (pp_call (fm_is_number T) solid_is_number (hr.mono (by decide)) (takes_of rfl rfl rfl rfl) rfl (ppa_cons (pp_ix (pp_pv 0) pp_int) ppa_nil)))) (ppw_or (ppt_not (ppt_val (pp_call (fm_is_number T) solid_is_number (hr.mono (by decide)) (takes_of rfl rfl rfl rfl) rfl (ppa_cons (pp_ix (pp_pv 0) pp_int) ppa_nil)))) (ppw_or1 (ppt_cmp op_ltP (pp_ix (pp_pv 0) pp_int) pp_int (nomark _))))))) (ppss_one (pps_ret pp_bl)) ppss_nil)
    (ppss_one (pps_ret (pp_cmp (op_eqP hr.units) (pp_call (fm_common_divisor T) solid_common_divisor (hr.mono (by decide)) (takes_of rfl rfl rfl rfl) rfl (ppa_cons (pp_ix (pp_pv 0) pp_int) (ppa_cons (pp_ix (pp_pv 0) pp_int) ppa_nil))) pp_int (nomark _)))))
/-! least_of -/
theorem sc_least_of : FnScope ["fractions", "found", "own"] ["fractions"] (defScope (topS 15)) := ⟨rfl, rfl, rfl, by decide +kernel, rfl, by decide +kernel, by decide +kernel⟩
def b_least_of : CS := (sSeq (sSet 1 (c2 ixD (cV 0) (cC (.int 0))))
    (sSeq (sFor (iA (cV 0)) (gN 2) (sSet 1 (cIf (tV (cCall m_at_most (aC (cV 1) (aC (cV 2) aN)))) (cV 1) (cV 2))))
    (sRet (c1 tupleD (cV 1)))))
def m_least_of : List D → Res D := cDef 1 2 b_least_of
theorem solid_least_of : Solid m_least_of := solid_def _ _ _
theorem fm_least_of (T : Tx0 c0 K mg) : Fm P w K mg base (clsOf c0) 2 "least_of" (topS 15) ["fractions"] m_least_of := by
  obtain ⟨f, fd, h1, h2, h3⟩ := T.f_least_of
  exact fm_def (k := 1) h2 sc_least_of h1 h3 rfl rfl fun cdv A outer s H E Fz hr => (ppss_cons (pps_set (i := 1) sc_least_of.nd rfl (by first | exact .inl rfl | exact .inr rfl) (pp_ix (pp_pv 0) pp_int))
    (ppss_cons (pps_for (passes_of rfl) rfl (ppi_seq (pp_pv 0)) (ppg_name (i := 2) sc_least_of.nd rfl (by first | exact .inl rfl | exact .inr rfl)) (ppss_one (pps_set (i := 1) sc_least_of.nd rfl (by first | exact .inl rfl | exact .inr rfl) (pp_if (ppt_val (pp_call (fm_at_most T) solid_at_most (hr.mono (by decide)) (takes_of rfl rfl rfl rfl) rfl (ppa_cons (pp_pv 1) (ppa_cons (pp_pv 2) ppa_nil)))) (pp_pv 1) (pp_pv 2)))))
    (ppss_one (pps_ret (pp_ty1 call_tupleP rfl T.z_tuple rfl (pp_pv 1))))))
/-! sum_of -/
theorem sc_sum_of : FnScope ["fractions", "found", "own"] ["fractions"] (defScope (topS 17)) := ⟨rfl, rfl, rfl, by decide +kernel, rfl, by decide +kernel, by decide +kernel⟩
def b_sum_of : CS := (sSeq (sSet 1 (cTup (aC (cC (.int 0)) (aC (cC (.int 1)) aN))))
    (sSeq (sFor (iA (cV 0)) (gN 2) (sSet 1 (cCall m_plus (aC (cV 1) (aC (cV 2) aN)))))
    (sRet (cV 1))))
def m_sum_of : List D → Res D := cDef 1 2 b_sum_of
theorem solid_sum_of : Solid m_sum_of := solid_def _ _ _
theorem fm_sum_of (T : Tx0 c0 K mg) : Fm P w K mg base (clsOf c0) 4 "sum_of" (topS 17) ["fractions"] m_sum_of := by
  obtain ⟨f, fd, h1, h2, h3⟩ := T.f_sum_of
  exact fm_def (k := 3) h2 sc_sum_of h1 h3 rfl rfl fun cdv A outer s H E Fz hr => (ppss_cons (pps_set (i := 1) sc_sum_of.nd rfl (by first | exact .inl rfl | exact .inr rfl) (pp_tup (ppa_cons pp_int (ppa_cons pp_int ppa_nil))))
    (ppss_cons (pps_for (passes_of rfl) rfl (ppi_seq (pp_pv 0)) (ppg_name (i := 2) sc_sum_of.nd rfl (by first | exact .inl rfl | exact .inr rfl)) (ppss_one (pps_set (i := 1) sc_sum_of.nd rfl (by first | exact .inl rfl | exact .inr rfl) (pp_call (fm_plus T) solid_plus (hr.mono (by decide)) (takes_of rfl rfl rfl rfl) rfl (ppa_cons (pp_pv 1) (ppa_cons (pp_pv 2) ppa_nil))))))
    (ppss_one (pps_ret (pp_pv 1)))))
/-! whole_tops -/
theorem sc_whole_tops : FnScope ["fractions", "much", "top", "bottom"] ["fractions"] (defScope (topS 19)) := ⟨rfl, rfl, rfl, by decide +kernel, rfl, by decide +kernel, by decide +kernel⟩
def b_whole_tops : CS := (sSeq (sSet 1 (cCall m_common_bottom (aC (cV 0) aN)))
    (sRet (c1 tupleD (cN (nLc (iA (cV 0)) [2, 3] (gT (gsC (gN 2) (gsC (gN 3) gsN))) tYesC (c2 mulD (cV 2) (c2 divD (cV 1) (cV 3))))))))
def m_whole_tops : List D → Res D := cDef 1 3 b_whole_tops
theorem solid_whole_tops : Solid m_whole_tops := solid_def _ _ _
theorem fm_whole_tops (T : Tx0 c0 K mg) : Fm P w K mg base (clsOf c0) 3 "whole_tops" (topS 19) ["fractions"] m_whole_tops := by
  obtain ⟨f, fd, h1, h2, h3⟩ := T.f_whole_tops
  exact fm_def (k := 2) h2 sc_whole_tops h1 h3 rfl rfl fun cdv A outer s H E Fz hr => (ppss_cons (pps_set (i := 1) sc_whole_tops.nd rfl (by first | exact .inl rfl | exact .inr rfl) (pp_call (fm_common_bottom T) solid_common_bottom (hr.mono (by decide)) (takes_of rfl rfl rfl rfl) rfl (ppa_cons (pp_pv 0) ppa_nil)))
    (ppss_one (pps_ret (pp_ty1 call_tupleP rfl T.z_tuple rfl (PPN.pp (ppn_lc (own := [("top", 2), ("bottom", 3)]) rfl sc_whole_tops.nd (ppi_seq (pp_pv 0)) (blk_of rfl (by rfl)) (fun _ _ _ _ _ => (ppgw_tup rfl (ppgws_cons (ppgw_name (i := 2) sc_whole_tops.nd rfl (by first | exact .inl rfl | exact .inr rfl) (by decide)) (ppgws_cons (ppgw_name (i := 3) sc_whole_tops.nd rfl (by first | exact .inl rfl | exact .inr rfl) (by decide)) ppgws_nil)))) (fun _ _ _ _ _ => ppts_nil) (fun _ _ _ _ _ => (pp_op op_mulP (pp_pv 2) (pp_op op_divP (pp_pv 1) (pp_pv 3))))))))))
/-! law -/
theorem sc_law : FnScope ["script", "things", "got", "due", "some", "own"] ["script"] (defScope (topS 25)) := ⟨rfl, rfl, rfl, by decide +kernel, rfl, by decide +kernel, by decide +kernel⟩
def b_law : CS := (sSeq (sSet 1 (cN (nLst (aC (cTup (aC (cC (.int 1)) (aC (cC (.int 2)) aN))) (aC (cTup (aC (c1 negD (cC (.int 3))) (aC (cC (.int 4)) aN))) (aC (cTup (aC (cC (.int 0)) (aC (cC (.int 1)) aN))) (aC (cTup (aC (cC (.int 7)) (aC (cC (.int 1)) aN))) (aC (cTup (aC (cC (.int 2)) (aC (cC (.int 4)) aN))) (aC (cTup (aC (cC (.int 1)) (aC (cC (.int 0)) aN))) (aC (cTup (aC (cC (.int 1)) (aC (c1 negD (cC (.int 2))) aN))) (aC (cN (nLst (aC (cC (.int 1)) (aC (cC (.int 2)) aN)))) (aC (cTup (aC (cC (.bl true)) (aC (cC (.int 2)) aN))) (aC (cTup (aC (cC (.int 1)) (aC (cC (.bl true)) aN))) (aC (cTup (aC (cC (.int 0)) (aC (cC (.int 2)) aN))) (aC (cTup (aC (cC (.int 1)) aN)) (aC (cTup (aC (cC (.int 1)) (aC (cC (.int 2)) (aC (cC (.int 3)) aN)))) (aC (cC .non) (aC (cC (.int 3)) aN))))))))))))))))))
    (sSeq (sSet 2 (cN (nLst (aC (cN (nLc (iA (cV 1)) [5] (gN 5) tYesC (cCall m_is_fraction (aC (cV 5) aN)))) (aC (cCallK m_is_fraction [0] aN (aC (cTup (aC (cC (.int 5)) (aC (cC (.int 3)) aN))) aN)) (aC (cCall m_fraction (aC (cC (.int 6)) (aC (c1 negD (cC (.int 4))) aN))) (aC (cCall m_fraction (aC (cC (.int 0)) (aC (c1 negD (cC (.int 7))) aN))) (aC (cCallK m_fraction [1, 0] aN (aC (cC (.int 12)) (aC (cC (.int 99)) aN))) (aC (cCall m_fraction (aC (c1 negD (cC (.int 8))) (aC (c1 negD (cC (.int 2))) aN))) (aC (cCall m_fraction (aC (cC (.int 5)) (aC (cC (.int 1)) aN))) aN))))))))))
    (sSeq (sSet 3 (cN (nLst (aC (c2 addD (c2 mulD (cN (nLst (aC (cC (.bl true)) aN))) (cC (.int 4))) (c2 mulD (cN (nLst (aC (cC (.bl false)) aN))) (cC (.int 11)))) (aC (cC (.bl true)) (aC (cTup (aC (c1 negD (cC (.int 3))) (aC (cC (.int 2)) aN))) (aC (cTup (aC (cC (.int 0)) (aC (cC (.int 1)) aN))) (aC (cTup (aC (cC (.int 33)) (aC (cC (.int 4)) aN))) (aC (cTup (aC (cC (.int 4)) (aC (cC (.int 1)) aN))) (aC (cTup (aC (cC (.int 5)) (aC (cC (.int 1)) aN))) aN))))))))))
    (sSeq (sSet 2 (c2 addD (cV 2) (cN (nLst (aC (cCall m_plus (aC (cTup (aC (cC (.int 1)) (aC (cC (.int 2)) aN))) (aC (cTup (aC (cC (.int 1)) (aC (cC (.int 3)) aN))) aN))) (aC (cCall m_plus (aC (cTup (aC (c1 negD (cC (.int 1))) (aC (cC (.int 2)) aN))) (aC (cTup (aC (cC (.int 1)) (aC (cC (.int 2)) aN))) aN))) (aC (cCallK m_plus [1, 0] aN (aC (cN (nLst (aC (cC (.int 1)) (aC (cC (.int 6)) aN)))) (aC (cN (nLst (aC (cC (.int 1)) (aC (cC (.int 3)) aN)))) aN))) (aC (cCall m_less (aC (cTup (aC (cC (.int 1)) (aC (cC (.int 2)) aN))) (aC (cTup (aC (cC (.int 2)) (aC (cC (.int 3)) aN))) aN))) (aC (cCallK m_less [1, 0] aN (aC (cN (nLst (aC (cC (.int 1)) (aC (cC (.int 4)) aN)))) (aC (cN (nLst (aC (cC (.int 1)) (aC (cC (.int 4)) aN)))) aN))) (aC (cCall m_times (aC (cTup (aC (cC (.int 2)) (aC (cC (.int 3)) aN))) (aC (cTup (aC (c1 negD (cC (.int 3))) (aC (cC (.int 4)) aN))) aN))) (aC (cCallK m_times [1, 0] aN (aC (cN (nLst (aC (cC (.int 0)) (aC (cC (.int 1)) aN)))) (aC (cN (nLst (aC (cC (.int 5)) (aC (cC (.int 7)) aN)))) aN))) (aC (cCall m_over (aC (cTup (aC (cC (.int 1)) (aC (cC (.int 2)) aN))) (aC (cTup (aC (c1 negD (cC (.int 1))) (aC (cC (.int 4)) aN))) aN))) (aC (cCallK m_over [1, 0] aN (aC (cN (nLst (aC (cC (.int 3)) (aC (cC (.int 1)) aN)))) (aC (cN (nLst (aC (cC (.int 0)) (aC (cC (.int 1)) aN)))) aN))) aN)))))))))))))
    (sSeq (sSet 3 (c2 addD (cV 3) (cN (nLst (aC (cTup (aC (cC (.int 5)) (aC (cC (.int 6)) aN))) (aC (cTup (aC (cC (.int 0)) (aC (cC (.int 1)) aN))) (aC (cTup (aC (cC (.int 1)) (aC (cC (.int 2)) aN))) (aC (cTup (aC (c1 negD (cC (.int 1))) (aC (cC (.int 6)) aN))) (aC (cTup (aC (cC (.int 0)) (aC (cC (.int 1)) aN))) (aC (cTup (aC (c1 negD (cC (.int 1))) (aC (cC (.int 2)) aN))) (aC (cTup (aC (cC (.int 0)) (aC (cC (.int 1)) aN))) (aC (cTup (aC (c1 negD (cC (.int 2))) (aC (cC (.int 1)) aN))) (aC (cTup (aC (cC (.int 0)) (aC (cC (.int 1)) aN))) aN)))))))))))))
    (sSeq (sSet 2 (c2 addD (cV 2) (cN (nLst (aC (cCall m_at_most (aC (cTup (aC (cC (.int 1)) (aC (cC (.int 3)) aN))) (aC (cTup (aC (cC (.int 2)) (aC (cC (.int 5)) aN))) aN))) (aC (cCall m_at_most (aC (cTup (aC (cC (.int 2)) (aC (cC (.int 5)) aN))) (aC (cTup (aC (cC (.int 1)) (aC (cC (.int 3)) aN))) aN))) (aC (cCall m_at_most (aC (cTup (aC (cC (.int 1)) (aC (cC (.int 3)) aN))) (aC (cTup (aC (cC (.int 1)) (aC (cC (.int 3)) aN))) aN))) (aC (cCallK m_at_most [1, 0] aN (aC (cN (nLst (aC (c1 negD (cC (.int 1))) (aC (cC (.int 3)) aN)))) (aC (cN (nLst (aC (c1 negD (cC (.int 1))) (aC (cC (.int 2)) aN)))) aN))) aN))))))))
    (sSeq (sSet 3 (c2 addD (cV 3) (cN (nLst (aC (cC (.bl true)) (aC (cC (.bl false)) (aC (cC (.bl true)) (aC (cC (.bl true)) aN))))))))
    (sSeq (sSet 4 (cTup (aC (cTup (aC (cC (.int 1)) (aC (cC (.int 2)) aN))) (aC (cTup (aC (cC (.int 1)) (aC (cC (.int 3)) aN))) (aC (cTup (aC (cC (.int 2)) (aC (cC (.int 3)) aN))) aN)))))
    (sSeq (sSet 2 (c2 addD (cV 2) (cN (nLst (aC (cCall m_least_of (aC (cV 4) aN)) (aC (cCall m_greatest_of (aC (cV 4) aN)) (aC (cCall m_least_of (aC (cN (nLst (aC (cN (nLst (aC (c1 negD (cC (.int 1))) (aC (cC (.int 2)) aN)))) (aC (cN (nLst (aC (cC (.int 1)) (aC (cC (.int 9)) aN)))) aN)))) aN)) (aC (cCallK m_greatest_of [0] aN (aC (cN (nLst (aC (cN (nLst (aC (c1 negD (cC (.int 1))) (aC (cC (.int 2)) aN)))) aN))) aN)) (aC (cCall m_sum_of (aC (cTup (aC (cTup (aC (cC (.int 1)) (aC (cC (.int 2)) aN))) (aC (cTup (aC (cC (.int 1)) (aC (cC (.int 2)) aN))) (aC (cTup (aC (cC (.int 1)) (aC (cC (.int 3)) aN))) aN)))) aN)) (aC (cCall m_sum_of (aC (cTup aN) aN)) (aC (cCallK m_sum_of [0] aN (aC (cN (nLst (aC (cN (nLst (aC (cC (.int 1)) (aC (cC (.int 2)) aN)))) aN))) aN)) aN)))))))))))
    (sSeq (sSet 3 (c2 addD (cV 3) (cN (nLst (aC (cTup (aC (cC (.int 1)) (aC (cC (.int 3)) aN))) (aC (cTup (aC (cC (.int 2)) (aC (cC (.int 3)) aN))) (aC (cTup (aC (c1 negD (cC (.int 1))) (aC (cC (.int 2)) aN))) (aC (cTup (aC (c1 negD (cC (.int 1))) (aC (cC (.int 2)) aN))) (aC (cTup (aC (cC (.int 4)) (aC (cC (.int 3)) aN))) (aC (cTup (aC (cC (.int 0)) (aC (cC (.int 1)) aN))) (aC (cTup (aC (cC (.int 1)) (aC (cC (.int 2)) aN))) aN)))))))))))
    (sSeq (sSet 2 (c2 addD (cV 2) (cN (nLst (aC (cCall m_rest_of (aC (cTup (aC (cC (.int 1)) (aC (cC (.int 3)) aN))) aN)) (aC (cCallK m_rest_of [0] aN (aC (cN (nLst (aC (cC (.int 1)) (aC (cC (.int 1)) aN)))) aN)) (aC (cCall m_between (aC (cTup (aC (cC (.int 1)) (aC (cC (.int 1)) aN))) (aC (cTup (aC (cC (.int 0)) (aC (cC (.int 1)) aN))) (aC (cTup (aC (cC (.int 1)) (aC (cC (.int 4)) aN))) aN)))) (aC (cCall m_between (aC (cTup (aC (cC (.int 1)) (aC (cC (.int 2)) aN))) (aC (cTup (aC (cC (.int 1)) (aC (cC (.int 3)) aN))) (aC (cTup (aC (cC (.int 1)) (aC (cC (.int 1)) aN))) aN)))) (aC (cCall m_between (aC (cTup (aC (cC (.int 1)) (aC (cC (.int 2)) aN))) (aC (cTup (aC (cC (.int 1)) (aC (cC (.int 3)) aN))) (aC (cTup (aC (cC (.int 0)) (aC (cC (.int 1)) aN))) aN)))) (aC (cCallK m_between [2, 1, 0] aN (aC (cN (nLst (aC (cC (.int 1)) (aC (cC (.int 2)) aN)))) (aC (cN (nLst (aC (c1 negD (cC (.int 1))) (aC (cC (.int 1)) aN)))) (aC (cN (nLst (aC (cC (.int 2)) (aC (cC (.int 1)) aN)))) aN)))) aN))))))))))
    (sSeq (sSet 3 (c2 addD (cV 3) (cN (nLst (aC (cTup (aC (cC (.int 2)) (aC (cC (.int 3)) aN))) (aC (cTup (aC (cC (.int 0)) (aC (cC (.int 1)) aN))) (aC (cTup (aC (cC (.int 1)) (aC (cC (.int 4)) aN))) (aC (cTup (aC (cC (.int 1)) (aC (cC (.int 2)) aN))) (aC (cTup (aC (cC (.int 1)) (aC (cC (.int 3)) aN))) (aC (cTup (aC (cC (.int 1)) (aC (cC (.int 2)) aN))) aN))))))))))
    (sSeq (sSet 2 (c2 addD (cV 2) (cN (nLst (aC (cCall m_common_bottom (aC (cV 4) aN)) (aC (cCall m_common_bottom (aC (cTup aN) aN)) (aC (cCallK m_common_bottom [0] aN (aC (cN (nLst (aC (cN (nLst (aC (cC (.int 1)) (aC (cC (.int 4)) aN)))) (aC (cN (nLst (aC (cC (.int 5)) (aC (cC (.int 6)) aN)))) aN)))) aN)) (aC (cCall m_whole_tops (aC (cV 4) aN)) (aC (cCall m_whole_tops (aC (cTup aN) aN)) (aC (cCallK m_whole_tops [0] aN (aC (cN (nLst (aC (cN (nLst (aC (c1 negD (cC (.int 1))) (aC (cC (.int 4)) aN)))) (aC (cN (nLst (aC (cC (.int 0)) (aC (cC (.int 1)) aN)))) aN)))) aN)) aN))))))))))
    (sSeq (sSet 3 (c2 addD (cV 3) (cN (nLst (aC (cC (.int 6)) (aC (cC (.int 1)) (aC (cC (.int 12)) (aC (cTup (aC (cC (.int 3)) (aC (cC (.int 2)) (aC (cC (.int 4)) aN)))) (aC (cTup aN) (aC (cTup (aC (c1 negD (cC (.int 1))) (aC (cC (.int 0)) aN))) aN))))))))))
    (sSeq (sSet 2 (c2 addD (cV 2) (cN (nLst (aC (cCall m__law_heard (aC (cC (.int 0)) (aC (cC (.int 1)) (aC (cC (.int 0)) aN)))) (aC (cCall m__law_heard (aC (cC (.int 0)) (aC (cC (.int 0)) (aC (cC (.int 0)) aN)))) (aC (cCall m__law_heard (aC (cC (.int 1)) (aC (cTup (aC (cC (.int 1)) (aC (cC (.int 2)) aN))) (aC (cTup (aC (cC (.int 0)) (aC (cC (.int 1)) aN))) aN)))) (aC (cCall m__law_heard (aC (cC (.int 1)) (aC (cN (nLst (aC (cC (.int 0)) (aC (cC (.int 1)) aN)))) (aC (cN (nLst (aC (cC (.int 0)) (aC (cC (.int 1)) aN)))) aN)))) aN))))))))
    (sRet (cCall (m__law_same 14) (aC (cV 2) (aC (c2 addD (cV 3) (c2 mulD (cN (nLst (aC (cN (nLst (aC (cC (.str "unfit")) (aC (cC (.bl true)) aN)))) aN))) (cC (.int 4)))) aN)))))))))))))))))))
theorem ok_law (T : Tx0 c0 K mg) (hB : okT (endD (b_law (noL 6))) = true) {f : Addr} {fd : FuncData} (F : Fun K "law" "law" (topS 25) f fd) : FnOk P w K mg base (L2.CX P w) 15 f fd ["script"] (spLawM K) := fm_law (cl := (clsOf c0)) (k := 14) F sc_law rfl (fun cdv A outer s H E Fz hr => (ppss_cons (pps_set (i := 1) sc_law.nd rfl (by first | exact .inl rfl | exact .inr rfl) (PPN.pp (ppn_lst (ppa_cons (pp_tup (ppa_cons pp_int (ppa_cons pp_int ppa_nil))) (ppa_cons (pp_tup (ppa_cons (pp_un un_negP pp_int) (ppa_cons pp_int ppa_nil))) (ppa_cons (pp_tup (ppa_cons pp_int (ppa_cons pp_int ppa_nil))) (ppa_cons (pp_tup (ppa_cons pp_int (ppa_cons pp_int ppa_nil))) (ppa_cons (pp_tup (ppa_cons pp_int (ppa_cons pp_int ppa_nil))) (ppa_cons (pp_tup (ppa_cons pp_int (ppa_cons pp_int ppa_nil))) (ppa_cons (pp_tup (ppa_cons pp_int (ppa_cons (pp_un un_negP pp_int) ppa_nil))) (ppa_cons (PPN.pp (ppn_lst (ppa_cons pp_int (ppa_cons pp_int ppa_nil)))) (ppa_cons (pp_tup (ppa_cons pp_bl (ppa_cons pp_int ppa_nil))) (ppa_cons (pp_tup (ppa_cons pp_int (ppa_cons pp_bl ppa_nil))) (ppa_cons (pp_tup (ppa_cons pp_int (ppa_cons pp_int ppa_nil))) (ppa_cons (pp_tup (ppa_cons pp_int ppa_nil)) (ppa_cons (pp_tup (ppa_cons pp_int (ppa_cons pp_int (ppa_cons pp_int ppa_nil)))) (ppa_cons pp_non (ppa_cons pp_int ppa_nil))))))))))))))))))
    (ppss_cons (pps_set (i := 2) sc_law.nd rfl (by first | exact .inl rfl | exact .inr rfl) (PPN.pp (ppn_lst (ppa_cons (PPN.pp (ppn_lc (own := [("own", 5)]) rfl sc_law.nd (ppi_seq (pp_pv 1)) (blk_of rfl (by rfl)) (fun _ _ _ _ _ => (ppgw_name (i := 5) sc_law.nd rfl (by first | exact .inl rfl | exact .inr rfl) (by decide))) (fun _ _ _ _ _ => ppts_nil) (fun _ _ _ _ _ => (pp_call (fm_is_fraction T) solid_is_fraction (hr.mono (by decide)) takes0 rfl (ppa_cons (pp_pv 5) ppa_nil))))) (ppa_cons (pp_callK0 (fm_is_fraction T) solid_is_fraction (hr.mono (by decide)) (takes_of rfl rfl rfl rfl) rfl (ppk_cons (pp_tup (ppa_cons pp_int (ppa_cons pp_int ppa_nil))) ppk_nil) (fun f fd F => kb_of F (ix := [0]) (ks := ["thing"]) (na := 0) fun _ _ _ _ _ _ _ us ws h1 h2 => match us, ws, h1, h2 with | [], [_], _, _ => .of_eq rfl) (alenS alen0)) (ppa_cons (pp_call (fm_fraction T) solid_fraction (hr.mono (by decide)) (takes_of rfl rfl rfl rfl) rfl (ppa_cons pp_int (ppa_cons (pp_un un_negP pp_int) ppa_nil))) (ppa_cons (pp_call (fm_fraction T) solid_fraction (hr.mono (by decide)) (takes_of rfl rfl rfl rfl) rfl (ppa_cons pp_int (ppa_cons (pp_un un_negP pp_int) ppa_nil))) (ppa_cons (pp_callK0 (fm_fraction T) solid_fraction (hr.mono (by decide)) (takes_of rfl rfl rfl rfl) rfl (ppk_cons pp_int (ppk_cons pp_int ppk_nil)) (fun f fd F => kb_of F (ix := [1, 0]) (ks := ["bottom", "top"]) (na := 0) fun _ _ _ _ _ _ _ us ws h1 h2 => match us, ws, h1, h2 with | [], [_, _], _, _ => .of_eq rfl) (alenS (alenS alen0))) (ppa_cons (pp_call (fm_fraction T) solid_fraction (hr.mono (by decide)) (takes_of rfl rfl rfl rfl) rfl (ppa_cons (pp_un un_negP pp_int) (ppa_cons (pp_un un_negP pp_int) ppa_nil))) (ppa_cons (pp_call (fm_fraction T) solid_fraction (hr.mono (by decide)) (takes_of rfl rfl rfl rfl) rfl (ppa_cons pp_int (ppa_cons pp_int ppa_nil))) ppa_nil))))))))))
    (ppss_cons (pps_set (i := 3) sc_law.nd rfl (by first | exact .inl rfl | exact .inr rfl) (PPN.pp (ppn_lst (ppa_cons (pp_op op_addP (pp_op op_mulP (PPN.pp (ppn_lst (ppa_cons pp_bl ppa_nil))) pp_int) (pp_op op_mulP (PPN.pp (ppn_lst (ppa_cons pp_bl ppa_nil))) pp_int)) (ppa_cons pp_bl (ppa_cons (pp_tup (ppa_cons (pp_un un_negP pp_int) (ppa_cons pp_int ppa_nil))) (ppa_cons (pp_tup (ppa_cons pp_int (ppa_cons pp_int ppa_nil))) (ppa_cons (pp_tup (ppa_cons pp_int (ppa_cons pp_int ppa_nil))) (ppa_cons (pp_tup (ppa_cons pp_int (ppa_cons pp_int ppa_nil))) (ppa_cons (pp_tup (ppa_cons pp_int (ppa_cons pp_int ppa_nil))) ppa_nil))))))))))
    (ppss_cons (pps_set (i := 2) sc_law.nd rfl (by first | exact .inl rfl | exact .inr rfl) (pp_op op_addP (pp_pv 2) (PPN.pp (ppn_lst (ppa_cons (pp_call (fm_plus T) solid_plus (hr.mono (by decide)) (takes_of rfl rfl rfl rfl) rfl (ppa_cons (pp_tup (ppa_cons pp_int (ppa_cons pp_int ppa_nil))) (ppa_cons (pp_tup (ppa_cons pp_int (ppa_cons pp_int ppa_nil))) ppa_nil))) (ppa_cons (pp_call (fm_plus T) solid_plus (hr.mono (by decide)) (takes_of rfl rfl rfl rfl) rfl (ppa_cons (pp_tup (ppa_cons (pp_un un_negP pp_int) (ppa_cons pp_int ppa_nil))) (ppa_cons (pp_tup (ppa_cons pp_int (ppa_cons pp_int ppa_nil))) ppa_nil))) (ppa_cons (pp_callK0 (fm_plus T) solid_plus (hr.mono (by decide)) (takes_of rfl rfl rfl rfl) rfl (ppk_cons (PPN.pp (ppn_lst (ppa_cons pp_int (ppa_cons pp_int ppa_nil)))) (ppk_cons (PPN.pp (ppn_lst (ppa_cons pp_int (ppa_cons pp_int ppa_nil)))) ppk_nil)) (fun f fd F => kb_of F (ix := [1, 0]) (ks := ["other", "one"]) (na := 0) fun _ _ _ _ _ _ _ us ws h1 h2 => match us, ws, h1, h2 with | [], [_, _], _, _ => .of_eq rfl) (alenS (alenS alen0))) (ppa_cons (pp_call (fm_less T) solid_less (hr.mono (by decide)) (takes_of rfl rfl rfl rfl) rfl (ppa_cons (pp_tup (ppa_cons pp_int (ppa_cons pp_int ppa_nil))) (ppa_cons (pp_tup (ppa_cons pp_int (ppa_cons pp_int ppa_nil))) ppa_nil))) (ppa_cons (pp_callK0 (fm_less T) solid_less (hr.mono (by decide)) (takes_of rfl rfl rfl rfl) rfl (ppk_cons (PPN.pp (ppn_lst (ppa_cons pp_int (ppa_cons pp_int ppa_nil)))) (ppk_cons (PPN.pp (ppn_lst (ppa_cons pp_int (ppa_cons pp_int ppa_nil)))) ppk_nil)) (fun f fd F => kb_of F (ix := [1, 0]) (ks := ["other", "one"]) (na := 0) fun _ _ _ _ _ _ _ us ws h1 h2 => match us, ws, h1, h2 with | [], [_, _], _, _ => .of_eq rfl) (alenS (alenS alen0))) (ppa_cons (pp_call (fm_times T) solid_times (hr.mono (by decide)) (takes_of rfl rfl rfl rfl) rfl (ppa_cons (pp_tup (ppa_cons pp_int (ppa_cons pp_int ppa_nil))) (ppa_cons (pp_tup (ppa_cons (pp_un un_negP pp_int) (ppa_cons pp_int ppa_nil))) ppa_nil))) (ppa_cons (pp_callK0 (fm_times T) solid_times (hr.mono (by decide)) (takes_of rfl rfl rfl rfl) rfl (ppk_cons (PPN.pp (ppn_lst (ppa_cons pp_int (ppa_cons pp_int ppa_nil)))) (ppk_cons (PPN.pp (ppn_lst (ppa_cons pp_int (ppa_cons pp_int ppa_nil)))) ppk_nil)) (fun f fd F => kb_of F (ix := [1, 0]) (ks := ["other", "one"]) (na := 0) fun _ _ _ _ _ _ _ us ws h1 h2 => match us, ws, h1, h2 with | [], [_, _], _, _ => .of_eq rfl) (alenS (alenS alen0))) (ppa_cons (pp_call (fm_over T) solid_over (hr.mono (by decide)) (takes_of rfl rfl rfl rfl) rfl (ppa_cons (pp_tup (ppa_cons pp_int (ppa_cons pp_int ppa_nil))) (ppa_cons (pp_tup (ppa_cons (pp_un un_negP pp_int) (ppa_cons pp_int ppa_nil))) ppa_nil))) (ppa_cons (pp_callK0 (fm_over T) solid_over (hr.mono (by decide)) (takes_of rfl rfl rfl rfl) rfl (ppk_cons (PPN.pp (ppn_lst (ppa_cons pp_int (ppa_cons pp_int ppa_nil)))) (ppk_cons (PPN.pp (ppn_lst (ppa_cons pp_int (ppa_cons pp_int ppa_nil)))) ppk_nil)) (fun f fd F => kb_of F (ix := [1, 0]) (ks := ["other", "one"]) (na := 0) fun _ _ _ _ _ _ _ us ws h1 h2 => match us, ws, h1, h2 with | [], [_, _], _, _ => .of_eq rfl) (alenS (alenS alen0))) ppa_nil)))))))))))))
    (ppss_cons (pps_set (i := 3) sc_law.nd rfl (by first | exact .inl rfl | exact .inr rfl) (pp_op op_addP (pp_pv 3) (PPN.pp (ppn_lst (ppa_cons (pp_tup (ppa_cons pp_int (ppa_cons pp_int ppa_nil))) (ppa_cons (pp_tup (ppa_cons pp_int (ppa_cons pp_int ppa_nil))) (ppa_cons (pp_tup (ppa_cons pp_int (ppa_cons pp_int ppa_nil))) (ppa_cons (pp_tup (ppa_cons (pp_un un_negP pp_int) (ppa_cons pp_int ppa_nil))) (ppa_cons (pp_tup (ppa_cons pp_int (ppa_cons pp_int ppa_nil))) (ppa_cons (pp_tup (ppa_cons (pp_un un_negP pp_int) (ppa_cons pp_int ppa_nil))) (ppa_cons (pp_tup (ppa_cons pp_int (ppa_cons pp_int ppa_nil))) (ppa_cons (pp_tup (ppa_cons (pp_un un_negP pp_int) (ppa_cons pp_int ppa_nil))) (ppa_cons (pp_tup (ppa_cons pp_int (ppa_cons pp_int ppa_nil))) ppa_nil)))))))))))))
    (ppss_cons (pps_set (i := 2) sc_law.nd rfl (by first | exact .inl rfl | exact .inr rfl) (pp_op op_addP (pp_pv 2) (PPN.pp (ppn_lst (ppa_cons (pp_call (fm_at_most T) solid_at_most (hr.mono (by decide)) (takes_of rfl rfl rfl rfl) rfl (ppa_cons (pp_tup (ppa_cons pp_int (ppa_cons pp_int ppa_nil))) (ppa_cons (pp_tup (ppa_cons pp_int (ppa_cons pp_int ppa_nil))) ppa_nil))) (ppa_cons (pp_call (fm_at_most T) solid_at_most (hr.mono (by decide)) (takes_of rfl rfl rfl rfl) rfl (ppa_cons (pp_tup (ppa_cons pp_int (ppa_cons pp_int ppa_nil))) (ppa_cons (pp_tup (ppa_cons pp_int (ppa_cons pp_int ppa_nil))) ppa_nil))) (ppa_cons (pp_call (fm_at_most T) solid_at_most (hr.mono (by decide)) (takes_of rfl rfl rfl rfl) rfl (ppa_cons (pp_tup (ppa_cons pp_int (ppa_cons pp_int ppa_nil))) (ppa_cons (pp_tup (ppa_cons pp_int (ppa_cons pp_int ppa_nil))) ppa_nil))) (ppa_cons (pp_callK0 (fm_at_most T) solid_at_most (hr.mono (by decide)) (takes_of rfl rfl rfl rfl) rfl (ppk_cons (PPN.pp (ppn_lst (ppa_cons (pp_un un_negP pp_int) (ppa_cons pp_int ppa_nil)))) (ppk_cons (PPN.pp (ppn_lst (ppa_cons (pp_un un_negP pp_int) (ppa_cons pp_int ppa_nil)))) ppk_nil)) (fun f fd F => kb_of F (ix := [1, 0]) (ks := ["other", "one"]) (na := 0) fun _ _ _ _ _ _ _ us ws h1 h2 => match us, ws, h1, h2 with | [], [_, _], _, _ => .of_eq rfl) (alenS (alenS alen0))) ppa_nil))))))))
    (ppss_cons (pps_set (i := 3) sc_law.nd rfl (by first | exact .inl rfl | exact .inr rfl) (pp_op op_addP (pp_pv 3) (PPN.pp (ppn_lst (ppa_cons pp_bl (ppa_cons pp_bl (ppa_cons pp_bl (ppa_cons pp_bl ppa_nil))))))))
    (ppss_cons (pps_set (i := 4) sc_law.nd rfl (by first | exact .inl rfl | exact .inr rfl) (pp_tup (ppa_cons (pp_tup (ppa_cons pp_int (ppa_cons pp_int ppa_nil))) (ppa_cons (pp_tup (ppa_cons pp_int (ppa_cons pp_int ppa_nil))) (ppa_cons (pp_tup (ppa_cons pp_int (ppa_cons pp_int ppa_nil))) ppa_nil)))))
    (ppss_cons (pps_set (i := 2) sc_law.nd rfl (by first | exact .inl rfl | exact .inr rfl) (pp_op op_addP (pp_pv 2) (PPN.pp (ppn_lst (ppa_cons (pp_call (fm_least_of T) solid_least_of (hr.mono (by decide)) (takes_of rfl rfl rfl rfl) rfl (ppa_cons (pp_pv 4) ppa_nil)) (ppa_cons (pp_call (fm_greatest_of T) solid_greatest_of (hr.mono (by decide)) (takes_of rfl rfl rfl rfl) rfl (ppa_cons (pp_pv 4) ppa_nil)) (ppa_cons (pp_call (fm_least_of T) solid_least_of (hr.mono (by decide)) (takes_of rfl rfl rfl rfl) rfl (ppa_cons (PPN.pp (ppn_lst (ppa_cons (PPN.pp (ppn_lst (ppa_cons (pp_un un_negP pp_int) (ppa_cons pp_int ppa_nil)))) (ppa_cons (PPN.pp (ppn_lst (ppa_cons pp_int (ppa_cons pp_int ppa_nil)))) ppa_nil)))) ppa_nil)) (ppa_cons (pp_callK0 (fm_greatest_of T) solid_greatest_of (hr.mono (by decide)) (takes_of rfl rfl rfl rfl) rfl (ppk_cons (PPN.pp (ppn_lst (ppa_cons (PPN.pp (ppn_lst (ppa_cons (pp_un un_negP pp_int) (ppa_cons pp_int ppa_nil)))) ppa_nil))) ppk_nil) (fun f fd F => kb_of F (ix := [0]) (ks := ["fractions"]) (na := 0) fun _ _ _ _ _ _ _ us ws h1 h2 => match us, ws, h1, h2 with | [], [_], _, _ => .of_eq rfl) (alenS alen0)) (ppa_cons (pp_call (fm_sum_of T) solid_sum_of (hr.mono (by decide)) (takes_of rfl rfl rfl rfl) rfl (ppa_cons (pp_tup (ppa_cons (pp_tup (ppa_cons pp_int (ppa_cons pp_int ppa_nil))) (ppa_cons (pp_tup (ppa_cons pp_int (ppa_cons pp_int ppa_nil))) (ppa_cons (pp_tup (ppa_cons pp_int (ppa_cons pp_int ppa_nil))) ppa_nil)))) ppa_nil)) (ppa_cons (pp_call (fm_sum_of T) solid_sum_of (hr.mono (by decide)) (takes_of rfl rfl rfl rfl) rfl (ppa_cons (pp_tup ppa_nil) ppa_nil)) (ppa_cons (pp_callK0 (fm_sum_of T) solid_sum_of (hr.mono (by decide)) (takes_of rfl rfl rfl rfl) rfl (ppk_cons (PPN.pp (ppn_lst (ppa_cons (PPN.pp (ppn_lst (ppa_cons pp_int (ppa_cons pp_int ppa_nil)))) ppa_nil))) ppk_nil) (fun f fd F => kb_of F (ix := [0]) (ks := ["fractions"]) (na := 0) fun _ _ _ _ _ _ _ us ws h1 h2 => match us, ws, h1, h2 with | [], [_], _, _ => .of_eq rfl) (alenS alen0)) ppa_nil)))))))))))
    (ppss_cons (pps_set (i := 3) sc_law.nd rfl (by first | exact .inl rfl | exact .inr rfl) (pp_op op_addP (pp_pv 3) (PPN.pp (ppn_lst (ppa_cons (pp_tup (ppa_cons pp_int (ppa_cons pp_int ppa_nil))) (ppa_cons (pp_tup (ppa_cons pp_int (ppa_cons pp_int ppa_nil))) (ppa_cons (pp_tup (ppa_cons (pp_un un_negP pp_int) (ppa_cons pp_int ppa_nil))) (ppa_cons (pp_tup (ppa_cons (pp_un un_negP pp_int) (ppa_cons pp_int ppa_nil))) (ppa_cons (pp_tup (ppa_cons pp_int (ppa_cons pp_int ppa_nil))) (ppa_cons (pp_tup (ppa_cons pp_int (ppa_cons pp_int ppa_nil))) (ppa_cons (pp_tup (ppa_cons pp_int (ppa_cons pp_int ppa_nil))) ppa_nil)))))))))))
    (ppss_cons (pps_set (i := 2) sc_law.nd rfl (by first | exact .inl rfl | exact .inr rfl) (pp_op op_addP (pp_pv 2) (PPN.pp (ppn_lst (ppa_cons (pp_call (fm_rest_of T) solid_rest_of (hr.mono (by decide)) (takes_of rfl rfl rfl rfl) rfl (ppa_cons (pp_tup (ppa_cons pp_int (ppa_cons pp_int ppa_nil))) ppa_nil)) (ppa_cons (pp_callK0 (fm_rest_of T) solid_rest_of (hr.mono (by decide)) (takes_of rfl rfl rfl rfl) rfl (ppk_cons (PPN.pp (ppn_lst (ppa_cons pp_int (ppa_cons pp_int ppa_nil)))) ppk_nil) (fun f fd F => kb_of F (ix := [0]) (ks := ["share"]) (na := 0) fun _ _ _ _ _ _ _ us ws h1 h2 => match us, ws, h1, h2 with | [], [_], _, _ => .of_eq rfl) (alenS alen0)) (ppa_cons (pp_call (fm_between T) solid_between (hr.mono (by decide)) (takes_of rfl rfl rfl rfl) rfl (ppa_cons (pp_tup (ppa_cons pp_int (ppa_cons pp_int ppa_nil))) (ppa_cons (pp_tup (ppa_cons pp_int (ppa_cons pp_int ppa_nil))) (ppa_cons (pp_tup (ppa_cons pp_int (ppa_cons pp_int ppa_nil))) ppa_nil)))) (ppa_cons (pp_call (fm_between T) solid_between (hr.mono (by decide)) (takes_of rfl rfl rfl rfl) rfl (ppa_cons (pp_tup (ppa_cons pp_int (ppa_cons pp_int ppa_nil))) (ppa_cons (pp_tup (ppa_cons pp_int (ppa_cons pp_int ppa_nil))) (ppa_cons (pp_tup (ppa_cons pp_int (ppa_cons pp_int ppa_nil))) ppa_nil)))) (ppa_cons (pp_call (fm_between T) solid_between (hr.mono (by decide)) (takes_of rfl rfl rfl rfl) rfl (ppa_cons (pp_tup (ppa_cons pp_int (ppa_cons pp_int ppa_nil))) (ppa_cons (pp_tup (ppa_cons pp_int (ppa_cons pp_int ppa_nil))) (ppa_cons (pp_tup (ppa_cons pp_int (ppa_cons pp_int ppa_nil))) ppa_nil)))) (ppa_cons (pp_callK0 (fm_between T) solid_between (hr.mono (by decide)) (takes_of rfl rfl rfl rfl) rfl (ppk_cons (PPN.pp (ppn_lst (ppa_cons pp_int (ppa_cons pp_int ppa_nil)))) (ppk_cons (PPN.pp (ppn_lst (ppa_cons (pp_un un_negP pp_int) (ppa_cons pp_int ppa_nil)))) (ppk_cons (PPN.pp (ppn_lst (ppa_cons pp_int (ppa_cons pp_int ppa_nil)))) ppk_nil))) (fun f fd F => kb_of F (ix := [2, 1, 0]) (ks := ["share", "other", "one"]) (na := 0) fun _ _ _ _ _ _ _ us ws h1 h2 => match us, ws, h1, h2 with | [], [_, _, _], _, _ => .of_eq rfl) (alenS (alenS (alenS alen0)))) ppa_nil))))))))))
    (ppss_cons (pps_set (i := 3) sc_law.nd rfl (by first | exact .inl rfl | exact .inr rfl) (pp_op op_addP (pp_pv 3) (PPN.pp (ppn_lst (ppa_cons (pp_tup (ppa_cons pp_int (ppa_cons pp_int ppa_nil))) (ppa_cons (pp_tup (ppa_cons pp_int (ppa_cons pp_int ppa_nil))) (ppa_cons (pp_tup (ppa_cons pp_int (ppa_cons pp_int ppa_nil))) (ppa_cons (pp_tup (ppa_cons pp_int (ppa_cons pp_int ppa_nil))) (ppa_cons (pp_tup (ppa_cons pp_int (ppa_cons pp_int ppa_nil))) (ppa_cons (pp_tup (ppa_cons pp_int (ppa_cons pp_int ppa_nil))) ppa_nil))))))))))
    (ppss_cons (pps_set (i := 2) sc_law.nd rfl (by first | exact .inl rfl | exact .inr rfl) (pp_op op_addP (pp_pv 2) (PPN.pp (ppn_lst (ppa_cons (pp_call (fm_common_bottom T) solid_common_bottom (hr.mono (by decide)) (takes_of rfl rfl rfl rfl) rfl (ppa_cons (pp_pv 4) ppa_nil)) (ppa_cons (pp_call (fm_common_bottom T) solid_common_bottom (hr.mono (by decide)) (takes_of rfl rfl rfl rfl) rfl (ppa_cons (pp_tup ppa_nil) ppa_nil)) (ppa_cons (pp_callK0 (fm_common_bottom T) solid_common_bottom (hr.mono (by decide)) (takes_of rfl rfl rfl rfl) rfl (ppk_cons (PPN.pp (ppn_lst (ppa_cons (PPN.pp (ppn_lst (ppa_cons pp_int (ppa_cons pp_int ppa_nil)))) (ppa_cons (PPN.pp (ppn_lst (ppa_cons pp_int (ppa_cons pp_int ppa_nil)))) ppa_nil)))) ppk_nil) (fun f fd F => kb_of F (ix := [0]) (ks := ["fractions"]) (na := 0) fun _ _ _ _ _ _ _ us ws h1 h2 => match us, ws, h1, h2 with | [], [_], _, _ => .of_eq rfl) (alenS alen0)) (ppa_cons (pp_call (fm_whole_tops T) solid_whole_tops (hr.mono (by decide)) (takes_of rfl rfl rfl rfl) rfl (ppa_cons (pp_pv 4) ppa_nil)) (ppa_cons (pp_call (fm_whole_tops T) solid_whole_tops (hr.mono (by decide)) (takes_of rfl rfl rfl rfl) rfl (ppa_cons (pp_tup ppa_nil) ppa_nil)) (ppa_cons (pp_callK0 (fm_whole_tops T) solid_whole_tops (hr.mono (by decide)) (takes_of rfl rfl rfl rfl) rfl (ppk_cons (PPN.pp (ppn_lst (ppa_cons (PPN.pp (ppn_lst (ppa_cons (pp_un un_negP pp_int) (ppa_cons pp_int ppa_nil)))) (ppa_cons (PPN.pp (ppn_lst (ppa_cons pp_int (ppa_cons pp_int ppa_nil)))) ppa_nil)))) ppk_nil) (fun f fd F => kb_of F (ix := [0]) (ks := ["fractions"]) (na := 0) fun _ _ _ _ _ _ _ us ws h1 h2 => match us, ws, h1, h2 with | [], [_], _, _ => .of_eq rfl) (alenS alen0)) ppa_nil))))))))))
    (ppss_cons (pps_set (i := 3) sc_law.nd rfl (by first | exact .inl rfl | exact .inr rfl) (pp_op op_addP (pp_pv 3) (PPN.pp (ppn_lst (ppa_cons pp_int (ppa_cons pp_int (ppa_cons pp_int (ppa_cons (pp_tup (ppa_cons pp_int (ppa_cons pp_int (ppa_cons pp_int ppa_nil)))) (ppa_cons (pp_tup ppa_nil) (ppa_cons (pp_tup (ppa_cons (pp_un un_negP pp_int) (ppa_cons pp_int ppa_nil))) ppa_nil))))))))))
    (ppss_cons (pps_set (i := 2) sc_law.nd rfl (by first | exact .inl rfl | exact .inr rfl) (pp_op op_addP (pp_pv 2) (PPN.pp (ppn_lst (ppa_cons (pp_call (fm__law_heard T) solid__law_heard (hr.mono (by decide)) (takes_of rfl rfl rfl rfl) rfl (ppa_cons pp_int (ppa_cons pp_int (ppa_cons pp_int ppa_nil)))) (ppa_cons (pp_call (fm__law_heard T) solid__law_heard (hr.mono (by decide)) (takes_of rfl rfl rfl rfl) rfl (ppa_cons pp_int (ppa_cons pp_int (ppa_cons pp_int ppa_nil)))) (ppa_cons (pp_call (fm__law_heard T) solid__law_heard (hr.mono (by decide)) (takes_of rfl rfl rfl rfl) rfl (ppa_cons pp_int (ppa_cons (pp_tup (ppa_cons pp_int (ppa_cons pp_int ppa_nil))) (ppa_cons (pp_tup (ppa_cons pp_int (ppa_cons pp_int ppa_nil))) ppa_nil)))) (ppa_cons (pp_call (fm__law_heard T) solid__law_heard (hr.mono (by decide)) (takes_of rfl rfl rfl rfl) rfl (ppa_cons pp_int (ppa_cons (PPN.pp (ppn_lst (ppa_cons pp_int (ppa_cons pp_int ppa_nil)))) (ppa_cons (PPN.pp (ppn_lst (ppa_cons pp_int (ppa_cons pp_int ppa_nil)))) ppa_nil)))) ppa_nil))))))))
    (ppss_one (pps_ret (pp_call (fm__law_same T 14) (solid__law_same 14) (hr.mono (by decide)) (takes_of rfl rfl rfl rfl) rfl (ppa_cons (pp_pv 2) (ppa_cons (pp_op op_addP (pp_pv 3) (pp_op op_mulP (PPN.pp (ppn_lst (ppa_cons (PPN.pp (ppn_lst (ppa_cons pp_str (ppa_cons pp_bl ppa_nil)))) ppa_nil))) pp_int)) ppa_nil))))))))))))))))))))) hB
end
theorem law_val : okT (endD (b_law (noL 6))) = true := by decide +kernel
theorem all_mk {l : PySem.W.OpenLaw} {w : World} {K : PySem.W.Frag} {h : Heap} {mg : Str → Option Value} {fa f0 f1 f2 f3 f4 f5 f6 f7 f8 f9 f10 f11 f12 f13 f14 f15 f16 f17 f18 f19 c0 : Addr} (X : K.In h) (G : h.Ns mainGlobals mg) (hfa : mg "law" = some (.ref fa))
    {od0 od1 od2 od3 od4 od5 od6 od7 od8 od9 od10 od11 od12 od13 od14 od15 od16 od17 od18 od19 an0 an1 an2 an3 an4 an5 an6 an7 an8 an9 an10 an11 an12 an13 an14 an15 an16 an17 an18 an19 : Option Addr} {sl0 sl1 sl2 sl3 sl4 sl5 sl6 sl7 sl8 sl9 sl10 sl11 sl12 sl13 sl14 sl15 sl16 sl17 sl18 sl19 : Array (Option Value)} {oc0 oc1 oc2 oc3 oc4 oc5 oc6 oc7 oc8 oc9 oc10 oc11 oc12 oc13 oc14 oc15 oc16 oc17 oc18 oc19 kV0 kV1 kV2 kV3 kV4 kV5 kV6 kV7 kV8 kV9 kV10 kV11 kV12 kV13 kV14 kV15 kV16 kV17 kV18 kV19 dc0 dc1 dc2 dc3 dc4 dc5 dc6 dc7 dc8 dc9 dc10 dc11 dc12 dc13 dc14 dc15 dc16 dc17 dc18 dc19 pm0 pm1 pm2 pm3 pm4 pm5 pm6 pm7 pm8 pm9 pm10 pm11 pm12 pm13 pm14 pm15 pm16 pm17 pm18 pm19 cd0 cd1 cd2 cd3 cd4 cd5 cd6 cd7 cd8 cd9 cd10 cd11 cd12 cd13 cd14 cd15 cd16 cd17 cd18 cd19 ct0 ct1 ct2 ct3 ct4 ct5 ct6 ct7 ct8 ct9 ct10 ct11 ct12 ct13 ct14 ct15 ct16 ct17 ct18 ct19 : Value} {tk_PAIR : Tok}
    (a0 : PySem.W.nsIn K mainGlobals "common_divisor" = some (some (.ref f0)))
    (l0 : K.lookup f0 = some ⟨oc0, od0, .func (PySem.W.fnOf "common_divisor" "common_divisor" (defArgs (topS 7)) (defBody (topS 7)) (defScope (topS 7)) .none kV0 dc0 pm0 an0 cd0 ct0), sl0⟩)
    (cdi0 : PySem.W.codeIn K cd0 "common_divisor" = true)
    (kp0 : PySem.W.keepIn K (.ref f0) = true)
    (a1 : PySem.W.nsIn K mainGlobals "fraction" = some (some (.ref f1)))
    (l1 : K.lookup f1 = some ⟨oc1, od1, .func (PySem.W.fnOf "fraction" "fraction" (defArgs (topS 9)) (defBody (topS 9)) (defScope (topS 9)) .none kV1 dc1 pm1 an1 cd1 ct1), sl1⟩)
    (cdi1 : PySem.W.codeIn K cd1 "fraction" = true)
    (kp1 : PySem.W.keepIn K (.ref f1) = true)
    (a2 : PySem.W.nsIn K mainGlobals "over" = some (some (.ref f2)))
    (l2 : K.lookup f2 = some ⟨oc2, od2, .func (PySem.W.fnOf "over" "over" (defArgs (topS 13)) (defBody (topS 13)) (defScope (topS 13)) .none kV2 dc2 pm2 an2 cd2 ct2), sl2⟩)
    (cdi2 : PySem.W.codeIn K cd2 "over" = true)
    (kp2 : PySem.W.keepIn K (.ref f2) = true)
    (a3 : PySem.W.nsIn K mainGlobals "_law_heard" = some (some (.ref f3)))
    (l3 : K.lookup f3 = some ⟨oc3, od3, .func (PySem.W.fnOf "_law_heard" "_law_heard" (defArgs (topS 24)) (defBody (topS 24)) (defScope (topS 24)) .none kV3 dc3 pm3 an3 cd3 ct3), sl3⟩)
    (cdi3 : PySem.W.codeIn K cd3 "_law_heard" = true)
    (kp3 : PySem.W.keepIn K (.ref f3) = true)
    (a4 : PySem.W.nsIn K mainGlobals "_law_same" = some (some (.ref f4)))
    (l4 : K.lookup f4 = some ⟨oc4, od4, .func (PySem.W.fnOf "_law_same" "_law_same" (defArgs (topS 23)) (defBody (topS 23)) (defScope (topS 23)) .none kV4 dc4 pm4 an4 cd4 ct4), sl4⟩)
    (cdi4 : PySem.W.codeIn K cd4 "_law_same" = true)
    (kp4 : PySem.W.keepIn K (.ref f4) = true)
    (a5 : PySem.W.nsIn K mainGlobals "at_most" = some (some (.ref f5)))
    (l5 : K.lookup f5 = some ⟨oc5, od5, .func (PySem.W.fnOf "at_most" "at_most" (defArgs (topS 14)) (defBody (topS 14)) (defScope (topS 14)) .none kV5 dc5 pm5 an5 cd5 ct5), sl5⟩)
    (cdi5 : PySem.W.codeIn K cd5 "at_most" = true)
    (kp5 : PySem.W.keepIn K (.ref f5) = true)
    (a6 : PySem.W.nsIn K mainGlobals "plus" = some (some (.ref f6)))
    (l6 : K.lookup f6 = some ⟨oc6, od6, .func (PySem.W.fnOf "plus" "plus" (defArgs (topS 10)) (defBody (topS 10)) (defScope (topS 10)) .none kV6 dc6 pm6 an6 cd6 ct6), sl6⟩)
    (cdi6 : PySem.W.codeIn K cd6 "plus" = true)
    (kp6 : PySem.W.keepIn K (.ref f6) = true)
    (a7 : PySem.W.nsIn K mainGlobals "less" = some (some (.ref f7)))
    (l7 : K.lookup f7 = some ⟨oc7, od7, .func (PySem.W.fnOf "less" "less" (defArgs (topS 11)) (defBody (topS 11)) (defScope (topS 11)) .none kV7 dc7 pm7 an7 cd7 ct7), sl7⟩)
    (cdi7 : PySem.W.codeIn K cd7 "less" = true)
    (kp7 : PySem.W.keepIn K (.ref f7) = true)
    (a8 : PySem.W.nsIn K mainGlobals "rest_of" = some (some (.ref f8)))
    (l8 : K.lookup f8 = some ⟨oc8, od8, .func (PySem.W.fnOf "rest_of" "rest_of" (defArgs (topS 20)) (defBody (topS 20)) (defScope (topS 20)) .none kV8 dc8 pm8 an8 cd8 ct8), sl8⟩)
    (cdi8 : PySem.W.codeIn K cd8 "rest_of" = true)
    (kp8 : PySem.W.keepIn K (.ref f8) = true)
    (a9 : PySem.W.nsIn K mainGlobals "times" = some (some (.ref f9)))
    (l9 : K.lookup f9 = some ⟨oc9, od9, .func (PySem.W.fnOf "times" "times" (defArgs (topS 12)) (defBody (topS 12)) (defScope (topS 12)) .none kV9 dc9 pm9 an9 cd9 ct9), sl9⟩)
    (cdi9 : PySem.W.codeIn K cd9 "times" = true)
    (kp9 : PySem.W.keepIn K (.ref f9) = true)
    (a10 : PySem.W.nsIn K mainGlobals "between" = some (some (.ref f10)))
    (l10 : K.lookup f10 = some ⟨oc10, od10, .func (PySem.W.fnOf "between" "between" (defArgs (topS 21)) (defBody (topS 21)) (defScope (topS 21)) .none kV10 dc10 pm10 an10 cd10 ct10), sl10⟩)
    (cdi10 : PySem.W.codeIn K cd10 "between" = true)
    (kp10 : PySem.W.keepIn K (.ref f10) = true)
    (a11 : PySem.W.nsIn K mainGlobals "common_bottom" = some (some (.ref f11)))
    (l11 : K.lookup f11 = some ⟨oc11, od11, .func (PySem.W.fnOf "common_bottom" "common_bottom" (defArgs (topS 18)) (defBody (topS 18)) (defScope (topS 18)) .none kV11 dc11 pm11 an11 cd11 ct11), sl11⟩)
    (cdi11 : PySem.W.codeIn K cd11 "common_bottom" = true)
    (kp11 : PySem.W.keepIn K (.ref f11) = true)
    (a12 : PySem.W.nsIn K mainGlobals "greatest_of" = some (some (.ref f12)))
    (l12 : K.lookup f12 = some ⟨oc12, od12, .func (PySem.W.fnOf "greatest_of" "greatest_of" (defArgs (topS 16)) (defBody (topS 16)) (defScope (topS 16)) .none kV12 dc12 pm12 an12 cd12 ct12), sl12⟩)
    (cdi12 : PySem.W.codeIn K cd12 "greatest_of" = true)
    (kp12 : PySem.W.keepIn K (.ref f12) = true)
    (a13 : PySem.W.nsIn K mainGlobals "is_number" = some (some (.ref f13)))
    (l13 : K.lookup f13 = some ⟨oc13, od13, .func (PySem.W.fnOf "is_number" "is_number" (defArgs (topS 3)) (defBody (topS 3)) (defScope (topS 3)) .none kV13 dc13 pm13 an13 cd13 ct13), sl13⟩)
    (cdi13 : PySem.W.codeIn K cd13 "is_number" = true)
    (kp13 : PySem.W.keepIn K (.ref f13) = true)
    (a14 : PySem.W.nsIn K mainGlobals "is_tuple_of" = some (some (.ref f14)))
    (l14 : K.lookup f14 = some ⟨oc14, od14, .func (PySem.W.fnOf "is_tuple_of" "is_tuple_of" (defArgs (topS 4)) (defBody (topS 4)) (defScope (topS 4)) .none kV14 dc14 pm14 an14 cd14 ct14), sl14⟩)
    (cdi14 : PySem.W.codeIn K cd14 "is_tuple_of" = true)
    (kp14 : PySem.W.keepIn K (.ref f14) = true)
    (a15 : PySem.W.nsIn K mainGlobals "is_fraction" = some (some (.ref f15)))
    (l15 : K.lookup f15 = some ⟨oc15, od15, .func (PySem.W.fnOf "is_fraction" "is_fraction" (defArgs (topS 8)) (defBody (topS 8)) (defScope (topS 8)) .none kV15 dc15 pm15 an15 cd15 ct15), sl15⟩)
    (cdi15 : PySem.W.codeIn K cd15 "is_fraction" = true)
    (kp15 : PySem.W.keepIn K (.ref f15) = true)
    (a16 : PySem.W.nsIn K mainGlobals "least_of" = some (some (.ref f16)))
    (l16 : K.lookup f16 = some ⟨oc16, od16, .func (PySem.W.fnOf "least_of" "least_of" (defArgs (topS 15)) (defBody (topS 15)) (defScope (topS 15)) .none kV16 dc16 pm16 an16 cd16 ct16), sl16⟩)
    (cdi16 : PySem.W.codeIn K cd16 "least_of" = true)
    (kp16 : PySem.W.keepIn K (.ref f16) = true)
    (a17 : PySem.W.nsIn K mainGlobals "sum_of" = some (some (.ref f17)))
    (l17 : K.lookup f17 = some ⟨oc17, od17, .func (PySem.W.fnOf "sum_of" "sum_of" (defArgs (topS 17)) (defBody (topS 17)) (defScope (topS 17)) .none kV17 dc17 pm17 an17 cd17 ct17), sl17⟩)
    (cdi17 : PySem.W.codeIn K cd17 "sum_of" = true)
    (kp17 : PySem.W.keepIn K (.ref f17) = true)
    (a18 : PySem.W.nsIn K mainGlobals "whole_tops" = some (some (.ref f18)))
    (l18 : K.lookup f18 = some ⟨oc18, od18, .func (PySem.W.fnOf "whole_tops" "whole_tops" (defArgs (topS 19)) (defBody (topS 19)) (defScope (topS 19)) .none kV18 dc18 pm18 an18 cd18 ct18), sl18⟩)
    (cdi18 : PySem.W.codeIn K cd18 "whole_tops" = true)
    (kp18 : PySem.W.keepIn K (.ref f18) = true)
    (a19 : PySem.W.nsIn K mainGlobals "law" = some (some (.ref f19)))
    (l19 : K.lookup f19 = some ⟨oc19, od19, .func (PySem.W.fnOf "law" "law" (defArgs (topS 25)) (defBody (topS 25)) (defScope (topS 25)) .none kV19 dc19 pm19 an19 cd19 ct19), sl19⟩)
    (cdi19 : PySem.W.codeIn K cd19 "law" = true)
    (kp19 : PySem.W.keepIn K (.ref f19) = true)
    (z_ValueError : PySem.W.nsIn K mainGlobals "ValueError" = some none)
    (z_abs : PySem.W.nsIn K mainGlobals "abs" = some none)
    (z_all : PySem.W.nsIn K mainGlobals "all" = some none)
    (z_bool : PySem.W.nsIn K mainGlobals "bool" = some none)
    (z_int : PySem.W.nsIn K mainGlobals "int" = some none)
    (z_isinstance : PySem.W.nsIn K mainGlobals "isinstance" = some none)
    (z_len : PySem.W.nsIn K mainGlobals "len" = some none)
    (z_list : PySem.W.nsIn K mainGlobals "list" = some none)
    (z_str : PySem.W.nsIn K mainGlobals "str" = some none)
    (z_tuple : PySem.W.nsIn K mainGlobals "tuple" = some none)
    (z_zip : PySem.W.nsIn K mainGlobals "zip" = some none)
    (k_PAIR : PySem.W.nsIn K mainGlobals "PAIR" = some (some (.int 2  tk_PAIR)))
    (eG0 : PySem.W.nsIn K mainGlobals "Unfit" = some (some (.ref c0)))
    (eX0 : PySem.W.excIn K c0 [.type "ValueError", .type "Exception", .type "BaseException", .type "object"] "ValueError.__new__" = true)
    (eK0 : PySem.W.keepIn K (.ref c0) = true)
    (eB0 : PySem.W.subIn K (.ref c0) (.type "BaseException") = some true)
    (eT0 : PySem.W.typeIn K (.ref c0) = some (.type "type"))
    (eD0 : PySem.W.hasDictIn K c0 = true)
    (eS0_0 : PySem.W.subIn K (.ref c0) (.ref c0) = some true)
    (eA0 : PySem.W.findIn K (.ref c0) "__getattribute__" = some (some (.builtin "BaseException.__getattribute__")))
    (eH0 : PySem.W.findIn K (.ref c0) "__getattr__" = some none)
    (eC0 : PySem.W.findIn K (.ref c0) "__class__" = some (some (.builtin "object.__class__")))
    (eM0 : PySem.W.mroIn K c0 (.type "object") = some true)
    (eI0_ValueError : PySem.W.subIn K (.ref c0) (.type "ValueError") = some true)
    (hsp : PySem.W.specialIn K (.builtin "object.__class__") "__get__" = some (some (.builtin "getset_descriptor.__get__")))
    (htk : PySem.W.takesIn K (.builtin "object.__class__") = some true) :
    ∃ fd : FuncData, (∀ (s : Shared) (v : Value), BindsTo s fd ⟨[v], []⟩ [("script", v)]) ∧ ∀ base : Heap, K.In base → base.Ns mainGlobals mg → FnOk l.prog w K mg base (L2.CX l.prog w) 15 fa fd ["script"] (spLawM K) := by
  have e := hfa.symm.trans (PySem.W.mg_of X G a19)
  cases e
  have F0 := fun_mk (st := topS 7) l0 cdi0 kp0
  have b0 := F0.binds (ps := ["one", "other"]) fun _ _ _ _ _ _ us hl => match us, hl with | [_, _], _ => rfl
  have F1 := fun_mk (st := topS 9) l1 cdi1 kp1
  have b1 := F1.binds (ps := ["top", "bottom"]) fun _ _ _ _ _ _ us hl => match us, hl with | [_, _], _ => rfl
  have F2 := fun_mk (st := topS 13) l2 cdi2 kp2
  have b2 := F2.binds (ps := ["one", "other"]) fun _ _ _ _ _ _ us hl => match us, hl with | [_, _], _ => rfl
  have F3 := fun_mk (st := topS 24) l3 cdi3 kp3
  have b3 := F3.binds (ps := ["door", "one", "other"]) fun _ _ _ _ _ _ us hl => match us, hl with | [_, _, _], _ => rfl
  have F4 := fun_mk (st := topS 23) l4 cdi4 kp4
  have b4 := F4.binds (ps := ["got", "due"]) fun _ _ _ _ _ _ us hl => match us, hl with | [_, _], _ => rfl
  have F5 := fun_mk (st := topS 14) l5 cdi5 kp5
  have b5 := F5.binds (ps := ["one", "other"]) fun _ _ _ _ _ _ us hl => match us, hl with | [_, _], _ => rfl
  have F6 := fun_mk (st := topS 10) l6 cdi6 kp6
  have b6 := F6.binds (ps := ["one", "other"]) fun _ _ _ _ _ _ us hl => match us, hl with | [_, _], _ => rfl
  have F7 := fun_mk (st := topS 11) l7 cdi7 kp7
  have b7 := F7.binds (ps := ["one", "other"]) fun _ _ _ _ _ _ us hl => match us, hl with | [_, _], _ => rfl
  have F8 := fun_mk (st := topS 20) l8 cdi8 kp8
  have b8 := F8.binds (ps := ["share"]) fun _ _ _ _ _ _ us hl => match us, hl with | [_], _ => rfl
  have F9 := fun_mk (st := topS 12) l9 cdi9 kp9
  have b9 := F9.binds (ps := ["one", "other"]) fun _ _ _ _ _ _ us hl => match us, hl with | [_, _], _ => rfl
  have F10 := fun_mk (st := topS 21) l10 cdi10 kp10
  have b10 := F10.binds (ps := ["one", "other", "share"]) fun _ _ _ _ _ _ us hl => match us, hl with | [_, _, _], _ => rfl
  have F11 := fun_mk (st := topS 18) l11 cdi11 kp11
  have b11 := F11.binds (ps := ["fractions"]) fun _ _ _ _ _ _ us hl => match us, hl with | [_], _ => rfl
  have F12 := fun_mk (st := topS 16) l12 cdi12 kp12
  have b12 := F12.binds (ps := ["fractions"]) fun _ _ _ _ _ _ us hl => match us, hl with | [_], _ => rfl
  have F13 := fun_mk (st := topS 3) l13 cdi13 kp13
  have b13 := F13.binds (ps := ["thing"]) fun _ _ _ _ _ _ us hl => match us, hl with | [_], _ => rfl
  have F14 := fun_mk (st := topS 4) l14 cdi14 kp14
  have b14 := F14.binds (ps := ["thing", "length"]) fun _ _ _ _ _ _ us hl => match us, hl with | [_, _], _ => rfl
  have F15 := fun_mk (st := topS 8) l15 cdi15 kp15
  have b15 := F15.binds (ps := ["thing"]) fun _ _ _ _ _ _ us hl => match us, hl with | [_], _ => rfl
  have F16 := fun_mk (st := topS 15) l16 cdi16 kp16
  have b16 := F16.binds (ps := ["fractions"]) fun _ _ _ _ _ _ us hl => match us, hl with | [_], _ => rfl
  have F17 := fun_mk (st := topS 17) l17 cdi17 kp17
  have b17 := F17.binds (ps := ["fractions"]) fun _ _ _ _ _ _ us hl => match us, hl with | [_], _ => rfl
  have F18 := fun_mk (st := topS 19) l18 cdi18 kp18
  have b18 := F18.binds (ps := ["fractions"]) fun _ _ _ _ _ _ us hl => match us, hl with | [_], _ => rfl
  have F19 := fun_mk (st := topS 25) l19 cdi19 kp19
  have T : Tx0 c0 K mg := { z_ValueError := PySem.W.mg_none_of X G z_ValueError, z_abs := PySem.W.mg_none_of X G z_abs, z_all := PySem.W.mg_none_of X G z_all, z_bool := PySem.W.mg_none_of X G z_bool, z_int := PySem.W.mg_none_of X G z_int, z_isinstance := PySem.W.mg_none_of X G z_isinstance, z_len := PySem.W.mg_none_of X G z_len, z_list := PySem.W.mg_none_of X G z_list, z_str := PySem.W.mg_none_of X G z_str, z_tuple := PySem.W.mg_none_of X G z_tuple, z_zip := PySem.W.mg_none_of X G z_zip, k_PAIR := ⟨_, PySem.W.mg_of X G k_PAIR⟩, f_common_divisor := ⟨_, _, PySem.W.mg_of X G a0, F0, b0⟩, f_fraction := ⟨_, _, PySem.W.mg_of X G a1, F1, b1⟩, f_over := ⟨_, _, PySem.W.mg_of X G a2, F2, b2⟩, f__law_heard := ⟨_, _, PySem.W.mg_of X G a3, F3, b3⟩, f__law_same := ⟨_, _, PySem.W.mg_of X G a4, F4, b4⟩, f_at_most := ⟨_, _, PySem.W.mg_of X G a5, F5, b5⟩, f_plus := ⟨_, _, PySem.W.mg_of X G a6, F6, b6⟩, f_less := ⟨_, _, PySem.W.mg_of X G a7, F7, b7⟩, f_rest_of := ⟨_, _, PySem.W.mg_of X G a8, F8, b8⟩, f_times := ⟨_, _, PySem.W.mg_of X G a9, F9, b9⟩, f_between := ⟨_, _, PySem.W.mg_of X G a10, F10, b10⟩, f_common_bottom := ⟨_, _, PySem.W.mg_of X G a11, F11, b11⟩, f_greatest_of := ⟨_, _, PySem.W.mg_of X G a12, F12, b12⟩, f_is_number := ⟨_, _, PySem.W.mg_of X G a13, F13, b13⟩, f_is_tuple_of := ⟨_, _, PySem.W.mg_of X G a14, F14, b14⟩, f_is_fraction := ⟨_, _, PySem.W.mg_of X G a15, F15, b15⟩, f_least_of := ⟨_, _, PySem.W.mg_of X G a16, F16, b16⟩, f_sum_of := ⟨_, _, PySem.W.mg_of X G a17, F17, b17⟩, f_whole_tops := ⟨_, _, PySem.W.mg_of X G a18, F18, b18⟩, o_Unfit := ⟨PySem.W.mg_of X G eG0, eX0, eK0, eB0, eT0⟩, ex_Unfit := fun c => match c with | _ => ⟨_, rfl, PySem.W.exm_ref eB0 eD0 eT0 eS0_0⟩, is_ValueError := fun c => match c with | _ => ⟨_, rfl, ⟨eA0, eH0, eB0, eD0, eC0, hsp, htk, eM0⟩, kit_typ (by decide +kernel) eI0_ValueError⟩ }
  exact ⟨PySem.W.fnOf "law" "law" (defArgs (topS 25)) (defBody (topS 25)) (defScope (topS 25)) .none kV19 dc19 pm19 an19 cd19 ct19, fun s v => .of_eq rfl, fun base _ _ => ok_law T law_val F19⟩
end Claim
open PySem PySem.W PyProof.Rows
set_option maxHeartbeats 0 in
theorem PySem.Challenge.cw_picksuntold_k00_numbers_by_hand_holds : PySem.Challenge.rw_picksuntold_k00_numbers_by_hand.Holds := by
  w_on; o_law; k_head; (case hw => w_witness2)
  k_fill
  refine L2.walk_of (l := PySem.Challenge.rw_picksuntold_k00_numbers_by_hand) (n := 63) (k := 15) (x := "script") (CX := fun w => L2.CX PySem.Challenge.rw_picksuntold_k00_numbers_by_hand.prog w) (sp := fun w => M.spLawM _) rfl (by decide) rfl ⟨rfl, by decide, by decide⟩ (fun w h Y => PySem.W.kIn_of Y) ?F (fun _ _ a ns hl _ hS => ⟨a, ns, rfl, hS, hl, fun _ => rfl⟩) (fun w H s e s' h => M.okx_never _ _ _ _ _ _ h)
  case F =>
    intro w mg fa h KX G hmg
    refine' Claim.all_mk KX G hmg ?a0 ?l0 ?cdi0 ?kp0 ?a1 ?l1 ?cdi1 ?kp1 ?a2 ?l2 ?cdi2 ?kp2 ?a3 ?l3 ?cdi3 ?kp3 ?a4 ?l4 ?cdi4 ?kp4 ?a5 ?l5 ?cdi5 ?kp5 ?a6 ?l6 ?cdi6 ?kp6 ?a7 ?l7 ?cdi7 ?kp7 ?a8 ?l8 ?cdi8 ?kp8 ?a9 ?l9 ?cdi9 ?kp9 ?a10 ?l10 ?cdi10 ?kp10 ?a11 ?l11 ?cdi11 ?kp11 ?a12 ?l12 ?cdi12 ?kp12 ?a13 ?l13 ?cdi13 ?kp13 ?a14 ?l14 ?cdi14 ?kp14 ?a15 ?l15 ?cdi15 ?kp15 ?a16 ?l16 ?cdi16 ?kp16 ?a17 ?l17 ?cdi17 ?kp17 ?a18 ?l18 ?cdi18 ?kp18 ?a19 ?l19 ?cdi19 ?kp19 ?z_ValueError ?z_abs ?z_all ?z_bool ?z_int ?z_isinstance ?z_len ?z_list ?z_str ?z_tuple ?z_zip ?k_PAIR ?eG0 ?eX0 ?eK0 ?eB0 ?eT0 ?eD0 ?eS0_0 ?eA0 ?eH0 ?eC0 ?eM0 ?eI0_ValueError ?hsp ?htk
    (case a0 => k_is)
    (case l0 => k_is)
    (case cdi0 => k_is)
    (case kp0 => k_is)
    (case a1 => k_is)
    (case l1 => k_is)
    (case cdi1 => k_is)
    (case kp1 => k_is)
    (case a2 => k_is)
    (case l2 => k_is)
    (case cdi2 => k_is)
    (case kp2 => k_is)
    (case a3 => k_is)
    (case l3 => k_is)
    (case cdi3 => k_is)
    (case kp3 => k_is)
    (case a4 => k_is)
    (case l4 => k_is)
    (case cdi4 => k_is)
    (case kp4 => k_is)
    (case a5 => k_is)
    (case l5 => k_is)
    (case cdi5 => k_is)
    (case kp5 => k_is)
    (case a6 => k_is)
    (case l6 => k_is)
    (case cdi6 => k_is)
    (case kp6 => k_is)
    (case a7 => k_is)
    (case l7 => k_is)
    (case cdi7 => k_is)
    (case kp7 => k_is)
    (case a8 => k_is)
    (case l8 => k_is)
    (case cdi8 => k_is)
    (case kp8 => k_is)
    (case a9 => k_is)
    (case l9 => k_is)
    (case cdi9 => k_is)
    (case kp9 => k_is)
    (case a10 => k_is)
    (case l10 => k_is)
    (case cdi10 => k_is)
    (case kp10 => k_is)
    (case a11 => k_is)
    (case l11 => k_is)
    (case cdi11 => k_is)
    (case kp11 => k_is)
    (case a12 => k_is)
    (case l12 => k_is)
    (case cdi12 => k_is)
    (case kp12 => k_is)
    (case a13 => k_is)
    (case l13 => k_is)
    (case cdi13 => k_is)
    (case kp13 => k_is)
    (case a14 => k_is)
    (case l14 => k_is)
    (case cdi14 => k_is)
    (case kp14 => k_is)
    (case a15 => k_is)
    (case l15 => k_is)
    (case cdi15 => k_is)
    (case kp15 => k_is)
    (case a16 => k_is)
    (case l16 => k_is)
    (case cdi16 => k_is)
    (case kp16 => k_is)
    (case a17 => k_is)
    (case l17 => k_is)
    (case cdi17 => k_is)
    (case kp17 => k_is)
    (case a18 => k_is)
    (case l18 => k_is)
    (case cdi18 => k_is)
    (case kp18 => k_is)
    (case a19 => k_is)
    (case l19 => k_is)
    (case cdi19 => k_is)
    (case kp19 => k_is)
    (case z_ValueError => k_is)
    (case z_abs => k_is)
    (case z_all => k_is)
    (case z_bool => k_is)
    (case z_int => k_is)
    (case z_isinstance => k_is)
    (case z_len => k_is)
    (case z_list => k_is)
    (case z_str => k_is)
    (case z_tuple => k_is)
    (case z_zip => k_is)
    (case k_PAIR => k_is)
    (case eG0 => k_is)
    (case eX0 => k_exc)
    (case eK0 => k_is)
    (case eB0 => k_is)
    (case eT0 => k_is)
    (case eD0 => k_is)
    (case eS0_0 => k_is)
    (case eA0 => k_is)
    (case eH0 => k_is)
    (case eC0 => k_is)
    (case eM0 => k_is)
    (case eI0_ValueError => k_is)
    (case hsp => k_is)
    (case htk => k_is)

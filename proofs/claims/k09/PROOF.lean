import PyProof.Rows.All
import Wide.All
import OpenK.AllK
import Wide.FinOn
import PySem.Challenge.RW_picksuntold_k09_facts_by_hand_and_refuse
import HandS.ForMost
import HandS.Exc
import HandS.ExcOwn
import HandS.WordsExc
import HandS.TupAny
import HandS.CallSlots
import HandS.TryOnly
import HandS.List
import KE.KeyNested
import KE.KDictKeyed
import HandS.Wide
import HandS.IsInst
import HandS.TupMul
import HandS.Deep
import HandS.Zip
import HandS.ExcIs
import HandS.Ends
import HandS.Star
import HandS.Sort
import PyProof.ListRange
import PyProof.Draws
import KE.GoesMore
import KE.DataFind
import KE.LtSeq
import KE.KSortTup
import KE.KSortTupAny
import HandS.SortOrd
import HandS.SortInts
import PyProof.TupleOfSeq
import HandS.ExcValue
import HandS.TupSets
import HandS.Strs
import HandS.Style
import HandS.RepeatKit
import HandS.Zip0
import PyProof.TupleCall
import KE.KDictSum
import HandS.TupLen
import KE.KDictCopyH
import KE.KDictZip
import HandS.Remove
import KE.KDictDisplayH
set_option Elab.async false
set_option linter.all false
set_option maxRecDepth 100000
set_option autoImplicit false
namespace M
open PySem PySem.Spec PyProof.Rows L2

abbrev St := L2.St
/-- plain data -/
inductive D where
  | non | bl (b : Bool) | int (i : Int) | str (x : Str)
  | tup (l : List D) | lst (l : List D) | bor (l : List D)
  | dct (ks vs : List D) | bdc (ks vs : List D)
mutual
def toN : D → NestedKey
  | .int i => .num i
  | .tup l => .tup (toNL l)
  | .non => .none | .bl _ => .none | .str _ => .none | .lst _ => .none | .bor _ => .none | .dct _ _ => .none | .bdc _ _ => .none
def toNL : List D → List NestedKey
  | [] => []
  | d :: l => toN d :: toNL l
end
mutual
def isQ : D → Bool
  | .int _ => true
  | .tup l => allQ l
  | _ => false
def allQ : List D → Bool
  | [] => true
  | d :: l => (match isQ d with | true => allQ l | false => false)
end
/-- a key's hash -/
def hD (w : World) (d : D) : Int := (toN d).hash w
/-- what stands in a dict: keys, where their tuples stand, values -/
abbrev DE := List (D × Addr × V)
def entD (w : World) (E : DE) (vs : List Value) : List DictEntry := List.zipWith (fun e v => ⟨hD w e.1, .ref e.2.1, v⟩) E vs
def RawD (h : Heap) (a : Addr) (E : DE) : Prop := ∃ o es ep vs, h.get? a = some o ∧ o.ExactDict ∧ o.data = .dict es ep ∧ Vals (E.map (·.2.2)) vs ∧ ∀ w, es.toList = entD w E vs
/-- a dict as an object that is tracked -/
def DctO (a : Addr) (E : DE) : HO := .ext fun h => ((a == sysModules) = false ∧ E.length ≤ 900000 ∧ (E.map (·.1)).Nodup ∧ ∀ e ∈ E, isQ e.1 = true ∧ (toN e.1).depth ≤ 8 ∧ ∃ l, e.1 = .tup l) ∧ RawD h a E

theorem SqT.same {K : PySem.W.Frag} {H H' : Hp} {a : Addr} {xs : List V} (e : Same H H') (h : SqT K H a xs) : SqT K H' a xs := by
  rcases h with (h | ⟨o, h⟩) | h
  · exact .inl (.inl (e _ _ h))
  · exact .inl (.inr ⟨o, e _ _ h⟩)
  · exact .inr h
/-- a tuple of which it is known that it has no dict -/
def TupX (K : PySem.W.Frag) (F : Hp) (a : Addr) (vs : List V) : Prop :=
  (∃ o : Obj, F a = some (.frz o (.tup vs)) ∧ o.dict = none) ∨ ∃ (o : Obj) (its : Array Value) (n : Nat), K.lookup a = some o ∧ o.cls = .type "tuple" ∧ o.dict = none ∧ o.data = .seq its n ∧ its.size ≤ sizeLine ∧ Vals vs its.toList
theorem TupX.sq {K : PySem.W.Frag} {F : Hp} {a : Addr} {vs : List V} (h : TupX K F a vs) : SqT K F a vs := by
  rcases h with ⟨o, h, _⟩ | ⟨o, its, n, h1, h2, _, h3, h4, h5⟩
  · exact .inl (.inr ⟨o, h⟩)
  · exact .inr ⟨o, its, n, h1, h2, h3, h4, h5⟩
theorem SqT.sameX {K : PySem.W.Frag} {H H' : Hp} {a : Addr} {xs : List V} (e : Same H H') (h : TupX K H a xs) : SqT K H' a xs := SqT.same e h.sq
theorem TupX.same {K : PySem.W.Frag} {F F' : Hp} {a : Addr} {vs : List V} (e : Same F F') (h : TupX K F a vs) : TupX K F' a vs := by
  rcases h with ⟨o, h, d⟩ | h
  · exact .inl ⟨o, e _ _ h, d⟩
  · exact .inr h
theorem TupX.of {K : PySem.W.Frag} {F : Hp} {a : Addr} {vs : List V} {o : Obj} (hd : o.dict = none) : TupX K (upd F a (.frz o (.tup vs))) a vs := .inl ⟨o, upd_same, hd⟩
mutual
inductive Rd (K : PySem.W.Frag) (F : Hp) : D → V → Prop
  | non : Rd K F .non .non
  | bl (b : Bool) : Rd K F (.bl b) (.bl b)
  | int (i : Int) : Rd K F (.int i) (.int i)
  | str (x : Str) (h : PySem.PyData.strOk x = true) : Rd K F (.str x) (.str x)
  | tup {a : Addr} {vs : List V} {l : List D} : TupX K F a vs → RdL K F l vs → Rd K F (.tup l) (.ref a)
  | lst {a : Addr} {vs : List V} {l : List D} : F a = some (.lst vs) → RdL K F l vs → Rd K F (.lst l) (.ref a)
  | dct {a : Addr} {E : DE} {ks vs : List D} : F a = some (DctO a E) → RdE K F E ks vs → Rd K F (.dct ks vs) (.ref a)
inductive RdL (K : PySem.W.Frag) (F : Hp) : List D → List V → Prop
  | nil : RdL K F [] []
  | cons {d : D} {l : List D} {v : V} {vs : List V} : Rd K F d v → RdL K F l vs → RdL K F (d :: l) (v :: vs)
inductive RdE (K : PySem.W.Frag) (F : Hp) : DE → List D → List D → Prop
  | nil : RdE K F [] [] []
  | cons {k d : D} {b : Addr} {v : V} {E : DE} {ks ds : List D} : Rd K F k (.ref b) → Rd K F d v → RdE K F E ks ds → RdE K F ((k, b, v) :: E) (k :: ks) (d :: ds)
end

mutual
theorem Rd.same {K : PySem.W.Frag} {F F' : Hp} (e : Same F F') : ∀ {d : D} {v : V}, Rd K F d v → Rd K F' d v
  | _, _, .non => .non
  | _, _, .bl b => .bl b
  | _, _, .int i => .int i
  | _, _, .str x h => .str x h
  | _, _, .tup s h => .tup (TupX.same e s) (RdL.same e h)
  | _, _, .lst s h => .lst (e _ _ s) (RdL.same e h)
  | _, _, .dct s h => .dct (e _ _ s) (RdE.same e h)
theorem RdL.same {K : PySem.W.Frag} {F F' : Hp} (e : Same F F') : ∀ {l : List D} {vs : List V}, RdL K F l vs → RdL K F' l vs
  | _, _, .nil => .nil
  | _, _, .cons r h => .cons (Rd.same e r) (RdL.same e h)
theorem RdE.same {K : PySem.W.Frag} {F F' : Hp} (e : Same F F') : ∀ {E : DE} {ks vs : List D}, RdE K F E ks vs → RdE K F' E ks vs
  | _, _, _, .nil => .nil
  | _, _, _, .cons r q h => .cons (Rd.same e r) (Rd.same e q) (RdE.same e h)
end
theorem RdL.length {K : PySem.W.Frag} {F : Hp} : ∀ {l : List D} {vs : List V}, RdL K F l vs → l.length = vs.length
  | _, _, .nil => rfl
  | _, _, .cons _ h => congrArg (· + 1) h.length
theorem RdL.get {K : PySem.W.Frag} {F : Hp} : ∀ {l : List D} {vs : List V} {i : Nat} {d : D}, RdL K F l vs → l[i]? = some d → ∃ v, vs[i]? = some v ∧ Rd K F d v
  | _, _, _, _, .nil, e => by simp at e
  | _, _, 0, _, .cons r _, e => by simp at e; subst e; exact ⟨_, rfl, r⟩
  | _, _, i + 1, _, .cons _ h, e => by
    obtain ⟨v, a, b⟩ := RdL.get (i := i) h (by simpa using e)
    exact ⟨v, by simpa using a, b⟩
theorem RdL.append {K : PySem.W.Frag} {F : Hp} : ∀ {l l' : List D} {vs vs' : List V}, RdL K F l vs → RdL K F l' vs' → RdL K F (l ++ l') (vs ++ vs')
  | _, _, _, _, .nil, s => s
  | _, _, _, _, .cons r t, s => .cons r (RdL.append t s)
theorem RdL.take {K : PySem.W.Frag} {F : Hp} : ∀ {l : List D} {vs : List V} (n : Nat), RdL K F l vs → RdL K F (l.take n) (vs.take n)
  | _, _, 0, _ => .nil
  | _, _, _ + 1, .nil => .nil
  | _, _, n + 1, .cons r t => .cons r (RdL.take n t)
theorem RdL.drop {K : PySem.W.Frag} {F : Hp} : ∀ {l : List D} {vs : List V} (n : Nat), RdL K F l vs → RdL K F (l.drop n) (vs.drop n)
  | _, _, 0, r => r
  | _, _, _ + 1, .nil => .nil
  | _, _, n + 1, .cons _ t => RdL.drop n t
theorem RdL.set {K : PySem.W.Frag} {F : Hp} {x : V} {u : D} (r : Rd K F u x) : ∀ {l : List D} {vs : List V} (i : Nat), RdL K F l vs → RdL K F (l.set i u) (vs.set i x)
  | _, _, _, .nil => .nil
  | _, _, 0, .cons _ t => .cons r t
  | _, _, i + 1, .cons q t => .cons q (RdL.set r i t)
theorem RdL.flatRep {K : PySem.W.Frag} {F : Hp} {l : List D} {vs : List V} (h : RdL K F l vs) : ∀ n : Nat, RdL K F (List.replicate n l).flatten (List.replicate n vs).flatten
  | 0 => .nil
  | n + 1 => by
    rw [List.replicate_succ, List.replicate_succ, List.flatten_cons, List.flatten_cons]
    exact h.append (RdL.flatRep h n)

/-- a value as it is read at the heap H, the frozen part F -/
def RdT (K : PySem.W.Frag) (F H : Hp) : D → V → Prop
  | .bor l, v => ∃ a vs, v = .ref a ∧ H a = some (.lst vs) ∧ RdL K F l vs
  | .bdc ks ws, v => ∃ a E, v = .ref a ∧ H a = some (DctO a E) ∧ RdE K F E ks ws
  | d, v => Rd K F d v
theorem RdT.of {K : PySem.W.Frag} {F H : Hp} {d : D} {v : V} (h : Rd K F d v) : RdT K F H d v := by
  cases h <;> first | exact .non | exact .bl _ | exact .int _ | exact .str _ (by assumption) | exact .tup (by assumption) (by assumption) | exact .lst (by assumption) (by assumption) | exact .dct (by assumption) (by assumption)
/-- no borrowed list -/
def D.solid : D → Bool
  | .bor _ => false
  | .bdc _ _ => false
  | _ => true
theorem RdT.rd {K : PySem.W.Frag} {F H : Hp} {d : D} {v : V} (h : RdT K F H d v) (s : d.solid = true) : Rd K F d v := by
  cases d <;> first | exact h | cases s
theorem RdT.same {K : PySem.W.Frag} {F H F' H' : Hp} (eF : Same F F') (eH : Same H H') {d : D} {v : V} (h : RdT K F H d v) : RdT K F' H' d v := by
  cases d with
  | bor l => obtain ⟨a, vs, rfl, h1, h2⟩ := h; exact ⟨a, vs, rfl, eH _ _ h1, h2.same eF⟩
  | bdc ks ws => obtain ⟨a, E, rfl, h1, h2⟩ := h; exact ⟨a, E, rfl, eH _ _ h1, h2.same eF⟩
  | _ => exact Rd.same eF h

/-- how the heaps grow: F the frozen part, H the heap -/
structure Ext (F H F' H' : Hp) : Prop where
  f : Same F F'
  h : Same H H'
  sub : Same F' H'
  new : ∀ a o, F' a = some o → F a = some o ∨ H a = none
theorem Ext.refl {F H : Hp} (s : Same F H) : Ext F H F H := ⟨Same.refl _, Same.refl _, s, fun _ _ h => .inl h⟩
theorem Ext.trans {F H F1 H1 F2 H2 : Hp} (a : Ext F H F1 H1) (b : Ext F1 H1 F2 H2) : Ext F H F2 H2 :=
  ⟨a.f.trans b.f, a.h.trans b.h, b.sub, fun x o h => by
    rcases b.new x o h with h | h
    · exact a.new x o h
    · exact .inr (a.h.free h)⟩
/-- a new frozen object -/
theorem Ext.put {F H : Hp} (s : Same F H) {p : Addr} (np : H p = none) (o : HO) : Ext F H (upd F p o) (upd H p o) := by
  refine ⟨fun b u e => ?_, fun b u e => ?_, fun b u e => ?_, fun b u e => ?_⟩
  · rw [upd_ne (ne_of_none (s _ _ e) np)]; exact e
  · rw [upd_ne (ne_of_none e np)]; exact e
  · by_cases h : b = p
    · subst h; rw [upd_same] at e ⊢; exact e
    · rw [upd_ne h] at e ⊢; exact s _ _ e
  · by_cases h : b = p
    · subst h; exact .inr np
    · rw [upd_ne h] at e; exact .inl e
/-- a new object that is not frozen -/
theorem Ext.add {F H : Hp} (s : Same F H) {p : Addr} (np : H p = none) (o : HO) : Ext F H F (upd H p o) := by
  refine ⟨Same.refl _, fun b u e => ?_, fun b u e => ?_, fun b u e => .inl e⟩
  · rw [upd_ne (ne_of_none e np)]; exact e
  · rw [upd_ne (ne_of_none (s _ _ e) np)]; exact s _ _ e

/-! ### slots -/
inductive Sl where
  | no | dat (d : D) | own (l : List D) | owd (ks vs : List D)
def Sl.isOwn : Sl → Bool
  | .own _ => true
  | .owd _ _ => true
  | _ => false
abbrev En := List Sl
/-- a slot's address, if it is a list of its own -/
def ownAt (σ : St) (i : Nat) : Sl → Option Addr
  | .own _ => (match σ[i]? with | some (some (.ref a)) => some a | _ => none)
  | _ => none
def SlOk (K : PySem.W.Frag) (F H : Hp) (x : Option (Option V)) : Sl → Prop
  | .no => True
  | .dat d => ∃ v, x = some (some v) ∧ Rd K F d v
  | .own l => ∃ a vs, x = some (some (.ref a)) ∧ H a = some (.lst vs) ∧ F a = none ∧ RdL K F l vs
  | .owd ks ws => ∃ a E, x = some (some (.ref a)) ∧ H a = some (DctO a E) ∧ F a = none ∧ RdE K F E ks ws
structure Stt (K : PySem.W.Frag) (F : Hp) (e : En) (σ : St) (H : Hp) : Prop where
  sub : Same F H
  len : e.length = σ.length
  at_ : ∀ (i : Nat) (s : Sl), e[i]? = some s → SlOk K F H σ[i]? s
  apart0 : ∀ (i j : Nat) (s s' : Sl) (a : Addr), s.isOwn = true → s'.isOwn = true → e[i]? = some s → e[j]? = some s' → σ[i]? = some (some (.ref a)) → σ[j]? = some (some (.ref a)) → i = j
theorem Stt.apart {K : PySem.W.Frag} {F : Hp} {e : En} {σ : St} {H : Hp} (st : Stt K F e σ H) (i j : Nat) (l l' : List D) (a : Addr) : e[i]? = some (.own l) → e[j]? = some (.own l') → σ[i]? = some (some (.ref a)) → σ[j]? = some (some (.ref a)) → i = j := st.apart0 i j _ _ a rfl rfl
theorem SlOk.ext {K : PySem.W.Frag} {F H F' H' : Hp} {x : Option (Option V)} {s : Sl} (h : SlOk K F H x s) (e : Ext F H F' H') : SlOk K F' H' x s := by
  cases s with
  | no => trivial
  | dat d => obtain ⟨v, h1, h2⟩ := h; exact ⟨v, h1, h2.same e.f⟩
  | own l =>
    obtain ⟨a, vs, h1, h2, h3, h4⟩ := h
    refine ⟨a, vs, h1, e.h _ _ h2, ?_, h4.same e.f⟩
    cases q : F' a with
    | none => rfl
    | some o =>
      rcases e.new a o q with z | z
      · rw [h3] at z; cases z
      · rw [h2] at z; cases z
  | owd ks ws =>
    obtain ⟨a, E, h1, h2, h3, h4⟩ := h
    refine ⟨a, E, h1, e.h _ _ h2, ?_, h4.same e.f⟩
    cases q : F' a with
    | none => rfl
    | some o =>
      rcases e.new a o q with z | z
      · rw [h3] at z; cases z
      · rw [h2] at z; cases z
theorem Stt.ext {K : PySem.W.Frag} {F : Hp} {e : En} {σ : St} {H F' H' : Hp} (st : Stt K F e σ H) (x : Ext F H F' H') : Stt K F' e σ H' :=
  ⟨x.sub, st.len, fun i s h => (st.at_ i s h).ext x, st.apart0⟩

/-! ### results -/
inductive Res (α : Type) where
  | ok (a : α) | exc (c : Nat) | bad
def Res.bind {α β : Type} (r : Res α) (f : α → Res β) : Res β := match r with
  | .ok a => f a
  | .exc c => .exc c
  | .bad => .bad
abbrev CE := En → Res D
abbrev CT := En → Res Bool
abbrev CA := En → Res (List D)

section
variable (K : PySem.W.Frag) (cl : Nat → Value) (W : WX)
/-- what is wanted behind an expression -/
def PostE (F H : Hp) (σ : St) (Q : VK) : Res D → Prop
  | .ok d => ∀ F' H' v, Ext F H F' H' → RdT K F' H' d v → Q v H'
  | .exc c => ∀ F' H', Ext F H F' H' → W (cl c) none σ H'
  | .bad => False
def PostT (F H : Hp) (σ : St) (Q : Bool → Hp → Prop) : Res Bool → Prop
  | .ok b => ∀ F' H', Ext F H F' H' → Q b H'
  | .exc c => ∀ F' H', Ext F H F' H' → W (cl c) none σ H'
  | .bad => False
def PostA (F H : Hp) (σ : St) (Q : List V → Hp → Prop) : Res (List D) → Prop
  | .ok l => ∀ F' H' vs, Ext F H F' H' → RdL K F' l vs → Q vs H'
  | .exc c => ∀ F' H', Ext F H F' H' → W (cl c) none σ H'
  | .bad => False
/-- a new list: its address still free -/
def PostN (F H : Hp) (σ : St) (Q : VK) : Res (List D) → Prop
  | .ok l => ∀ F' H' p vs, Ext F H F' H' → H' p = none → RdL K F' l vs → vs.length ≤ sizeLine → Q (.ref p) (upd H' p (.lst vs))
  | .exc c => ∀ F' H', Ext F H F' H' → W (cl c) none σ H'
  | .bad => False
def tp (A : CE) : TE := fun σ H Q => ∃ F e, Stt K F e σ H ∧ PostE K cl W F H σ Q (A e)
def tt (A : CT) : TT := fun σ H Q => ∃ F e, Stt K F e σ H ∧ PostT cl W F H σ Q (A e)
def ta (A : CA) : TA := fun σ H Q => ∃ F e, Stt K F e σ H ∧ PostA K cl W F H σ Q (A e)
def tn (A : CA) : TE := fun σ H Q => ∃ F e, Stt K F e σ H ∧ PostN K cl W F H σ Q (A e)
end
section
variable {K : PySem.W.Frag} {cl : Nat → Value} {W : WX} {F H F' H' : Hp} {σ : St}
theorem PostE.ext {Q : VK} {r : Res D} (h : PostE K cl W F H σ Q r) (x : Ext F H F' H') : PostE K cl W F' H' σ Q r := by
  cases r with
  | ok d => exact fun F2 H2 v y => h F2 H2 v (x.trans y)
  | exc c => exact fun F2 H2 y => h F2 H2 (x.trans y)
  | bad => exact h
theorem PostT.ext {Q : Bool → Hp → Prop} {r : Res Bool} (h : PostT cl W F H σ Q r) (x : Ext F H F' H') : PostT cl W F' H' σ Q r := by
  cases r with
  | ok d => exact fun F2 H2 y => h F2 H2 (x.trans y)
  | exc c => exact fun F2 H2 y => h F2 H2 (x.trans y)
  | bad => exact h
theorem PostA.ext {Q : List V → Hp → Prop} {r : Res (List D)} (h : PostA K cl W F H σ Q r) (x : Ext F H F' H') : PostA K cl W F' H' σ Q r := by
  cases r with
  | ok d => exact fun F2 H2 v y => h F2 H2 v (x.trans y)
  | exc c => exact fun F2 H2 y => h F2 H2 (x.trans y)
  | bad => exact h
theorem PostN.ext {Q : VK} {r : Res (List D)} (h : PostN K cl W F H σ Q r) (x : Ext F H F' H') : PostN K cl W F' H' σ Q r := by
  cases r with
  | ok d => exact fun F2 H2 p v y => h F2 H2 p v (x.trans y)
  | exc c => exact fun F2 H2 y => h F2 H2 (x.trans y)
  | bad => exact h
end

section
variable (X : Cx) (cl : Nat → Value) (W : WX)
def PP (e : Expr) (A : CE) : Prop := PE X e (tp X.K cl W A)
def PPT (e : Expr) (A : CT) : Prop := PT X e (tt X.K cl W A)
def PPW (e : Expr) (A : CT) : Prop := PW X e (tt X.K cl W A)
def PPA (es : List Expr) (A : CA) : Prop := PA X es (ta X.K cl W A)
/-- an expression that makes a new list -/
def PPN (e : Expr) (A : CA) : Prop := PE X e (tn X.K cl W A)
end
theorem PE.imp {X : Cx} {e : Expr} {t t' : TE} (h : PE X e t) (i : ∀ σ H Q, t' σ H Q → t σ H Q) : PE X e t' := ⟨fun pins s σ H Q I q => h.run pins s σ H Q I (i σ H Q q)⟩
theorem PT.imp {X : Cx} {e : Expr} {t t' : TT} (h : PT X e t) (i : ∀ σ H Q, t' σ H Q → t σ H Q) : PT X e t' := ⟨fun pins s σ H Q I q => h.run pins s σ H Q I (i σ H Q q)⟩
theorem PW.imp {X : Cx} {e : Expr} {t t' : TT} (h : PW X e t) (i : ∀ σ H Q, t' σ H Q → t σ H Q) : PW X e t' := ⟨fun wh pins s σ H Q I q => h.run wh pins s σ H Q I (i σ H Q q)⟩
theorem PA.imp {X : Cx} {es : List Expr} {t t' : TA} (h : PA X es t) (i : ∀ σ H Q, t' σ H Q → t σ H Q) : PA X es t' := ⟨fun pos pins s σ H Q I q => h.run pos pins s σ H Q I (i σ H Q q)⟩

/-! ### chains -/
section
variable {K : PySem.W.Frag} {cl : Nat → Value} {W : WX} {F H : Hp} {σ : St} {e : En}
theorem go1E {A : CE} {R : VK} {Q : VK} {f : D → Res D} (st : Stt K F e σ H) (h : PostE K cl W F H σ Q ((A e).bind f))
    (k : ∀ d F' H' v, Ext F H F' H' → Stt K F' e σ H' → RdT K F' H' d v → PostE K cl W F' H' σ Q (f d) → R v H') : tp K cl W A σ H R := by
  refine ⟨F, e, st, ?_⟩
  cases q : A e with
  | ok d => rw [q] at h; exact fun F' H' v x r => k d F' H' v x (st.ext x) r (PostE.ext (r := f d) h x)
  | exc c => rw [q] at h; exact h
  | bad => rw [q] at h; exact h
theorem go1T {A : CE} {R : VK} {Q : Bool → Hp → Prop} {f : D → Res Bool} (st : Stt K F e σ H) (h : PostT cl W F H σ Q ((A e).bind f))
    (k : ∀ d F' H' v, Ext F H F' H' → Stt K F' e σ H' → RdT K F' H' d v → PostT cl W F' H' σ Q (f d) → R v H') : tp K cl W A σ H R := by
  refine ⟨F, e, st, ?_⟩
  cases q : A e with
  | ok d => rw [q] at h; exact fun F' H' v x r => k d F' H' v x (st.ext x) r (PostT.ext (r := f d) h x)
  | exc c => rw [q] at h; exact h
  | bad => rw [q] at h; exact h
theorem go1A {A : CE} {R : VK} {Q : List V → Hp → Prop} {f : D → Res (List D)} (st : Stt K F e σ H) (h : PostA K cl W F H σ Q ((A e).bind f))
    (k : ∀ d F' H' v, Ext F H F' H' → Stt K F' e σ H' → RdT K F' H' d v → PostA K cl W F' H' σ Q (f d) → R v H') : tp K cl W A σ H R := by
  refine ⟨F, e, st, ?_⟩
  cases q : A e with
  | ok d => rw [q] at h; exact fun F' H' v x r => k d F' H' v x (st.ext x) r (PostA.ext (r := f d) h x)
  | exc c => rw [q] at h; exact h
  | bad => rw [q] at h; exact h
theorem go1N {A : CE} {R : VK} {Q : VK} {f : D → Res (List D)} (st : Stt K F e σ H) (h : PostN K cl W F H σ Q ((A e).bind f))
    (k : ∀ d F' H' v, Ext F H F' H' → Stt K F' e σ H' → RdT K F' H' d v → PostN K cl W F' H' σ Q (f d) → R v H') : tp K cl W A σ H R := by
  refine ⟨F, e, st, ?_⟩
  cases q : A e with
  | ok d => rw [q] at h; exact fun F' H' v x r => k d F' H' v x (st.ext x) r (PostN.ext (r := f d) h x)
  | exc c => rw [q] at h; exact h
  | bad => rw [q] at h; exact h
theorem goTE {A : CT} {R : Bool → Hp → Prop} {Q : VK} {f : Bool → Res D} (st : Stt K F e σ H) (h : PostE K cl W F H σ Q ((A e).bind f))
    (k : ∀ d F' H', Ext F H F' H' → Stt K F' e σ H' → PostE K cl W F' H' σ Q (f d) → R d H') : tt K cl W A σ H R := by
  refine ⟨F, e, st, ?_⟩
  cases q : A e with
  | ok d => rw [q] at h; exact fun F' H' x => k d F' H'  x (st.ext x) (PostE.ext (r := f d) h x)
  | exc c => rw [q] at h; exact h
  | bad => rw [q] at h; exact h
theorem goTT {A : CT} {R : Bool → Hp → Prop} {Q : Bool → Hp → Prop} {f : Bool → Res Bool} (st : Stt K F e σ H) (h : PostT cl W F H σ Q ((A e).bind f))
    (k : ∀ d F' H', Ext F H F' H' → Stt K F' e σ H' → PostT cl W F' H' σ Q (f d) → R d H') : tt K cl W A σ H R := by
  refine ⟨F, e, st, ?_⟩
  cases q : A e with
  | ok d => rw [q] at h; exact fun F' H' x => k d F' H'  x (st.ext x) (PostT.ext (r := f d) h x)
  | exc c => rw [q] at h; exact h
  | bad => rw [q] at h; exact h
theorem goTA {A : CT} {R : Bool → Hp → Prop} {Q : List V → Hp → Prop} {f : Bool → Res (List D)} (st : Stt K F e σ H) (h : PostA K cl W F H σ Q ((A e).bind f))
    (k : ∀ d F' H', Ext F H F' H' → Stt K F' e σ H' → PostA K cl W F' H' σ Q (f d) → R d H') : tt K cl W A σ H R := by
  refine ⟨F, e, st, ?_⟩
  cases q : A e with
  | ok d => rw [q] at h; exact fun F' H' x => k d F' H'  x (st.ext x) (PostA.ext (r := f d) h x)
  | exc c => rw [q] at h; exact h
  | bad => rw [q] at h; exact h
theorem goTN {A : CT} {R : Bool → Hp → Prop} {Q : VK} {f : Bool → Res (List D)} (st : Stt K F e σ H) (h : PostN K cl W F H σ Q ((A e).bind f))
    (k : ∀ d F' H', Ext F H F' H' → Stt K F' e σ H' → PostN K cl W F' H' σ Q (f d) → R d H') : tt K cl W A σ H R := by
  refine ⟨F, e, st, ?_⟩
  cases q : A e with
  | ok d => rw [q] at h; exact fun F' H' x => k d F' H'  x (st.ext x) (PostN.ext (r := f d) h x)
  | exc c => rw [q] at h; exact h
  | bad => rw [q] at h; exact h
theorem goAE {A : CA} {R : List V → Hp → Prop} {Q : VK} {f : List D → Res D} (st : Stt K F e σ H) (h : PostE K cl W F H σ Q ((A e).bind f))
    (k : ∀ d F' H' vs, Ext F H F' H' → Stt K F' e σ H' → RdL K F' d vs → PostE K cl W F' H' σ Q (f d) → R vs H') : ta K cl W A σ H R := by
  refine ⟨F, e, st, ?_⟩
  cases q : A e with
  | ok d => rw [q] at h; exact fun F' H' vs x r => k d F' H' vs x (st.ext x) r (PostE.ext (r := f d) h x)
  | exc c => rw [q] at h; exact h
  | bad => rw [q] at h; exact h
theorem goAT {A : CA} {R : List V → Hp → Prop} {Q : Bool → Hp → Prop} {f : List D → Res Bool} (st : Stt K F e σ H) (h : PostT cl W F H σ Q ((A e).bind f))
    (k : ∀ d F' H' vs, Ext F H F' H' → Stt K F' e σ H' → RdL K F' d vs → PostT cl W F' H' σ Q (f d) → R vs H') : ta K cl W A σ H R := by
  refine ⟨F, e, st, ?_⟩
  cases q : A e with
  | ok d => rw [q] at h; exact fun F' H' vs x r => k d F' H' vs x (st.ext x) r (PostT.ext (r := f d) h x)
  | exc c => rw [q] at h; exact h
  | bad => rw [q] at h; exact h
theorem goAA {A : CA} {R : List V → Hp → Prop} {Q : List V → Hp → Prop} {f : List D → Res (List D)} (st : Stt K F e σ H) (h : PostA K cl W F H σ Q ((A e).bind f))
    (k : ∀ d F' H' vs, Ext F H F' H' → Stt K F' e σ H' → RdL K F' d vs → PostA K cl W F' H' σ Q (f d) → R vs H') : ta K cl W A σ H R := by
  refine ⟨F, e, st, ?_⟩
  cases q : A e with
  | ok d => rw [q] at h; exact fun F' H' vs x r => k d F' H' vs x (st.ext x) r (PostA.ext (r := f d) h x)
  | exc c => rw [q] at h; exact h
  | bad => rw [q] at h; exact h
theorem goAN {A : CA} {R : List V → Hp → Prop} {Q : VK} {f : List D → Res (List D)} (st : Stt K F e σ H) (h : PostN K cl W F H σ Q ((A e).bind f))
    (k : ∀ d F' H' vs, Ext F H F' H' → Stt K F' e σ H' → RdL K F' d vs → PostN K cl W F' H' σ Q (f d) → R vs H') : ta K cl W A σ H R := by
  refine ⟨F, e, st, ?_⟩
  cases q : A e with
  | ok d => rw [q] at h; exact fun F' H' vs x r => k d F' H' vs x (st.ext x) r (PostN.ext (r := f d) h x)
  | exc c => rw [q] at h; exact h
  | bad => rw [q] at h; exact h
theorem PostE.at {Q : VK} {d : D} (h : PostE K cl W F H σ Q (.ok d)) (s : Same F H) {v : V} (r : RdT K F H d v) : Q v H := h F H v (Ext.refl s) r
theorem PostT.at {Q : Bool → Hp → Prop} {b : Bool} (h : PostT cl W F H σ Q (.ok b)) (s : Same F H) : Q b H := h F H (Ext.refl s)
theorem PostA.at {Q : List V → Hp → Prop} {l : List D} (h : PostA K cl W F H σ Q (.ok l)) (s : Same F H) {vs : List V} (r : RdL K F l vs) : Q vs H := h F H vs (Ext.refl s) r
end

/-! ### tuples made, with their objects known -/
section
variable {X : Cx} {es : List Expr} {t : TA} {pos : Pos}
theorem IsTup.newX (h : Heap) (its : List Value) : (h.push { cls := .type "tuple", data := .seq its.toArray }).get? h.objs.size = some { cls := .type "tuple", data := .seq its.toArray } := Heap.get?_push_size _ rfl
/-- a tuple laid anew -/
theorem Inv.tupX {pins : List (Addr × Obj)} {σ : L2.St} {H : Hp} {s : Shared} {xs : List V} {its : List Value} (I : Inv X pins σ H s) (r : Vals xs its) (z : xs.length ≤ sizeLine) :
    Inv X pins σ (upd H s.heap.objs.size (.frz { cls := .type "tuple", data := .seq its.toArray } (.tup xs))) { s with heap := s.heap.push { cls := .type "tuple", data := .seq its.toArray } } ∧ H s.heap.objs.size = none :=
  ⟨I.laid (t' := s.toks) (fun _ _ e => Heap.get?_push_of_some _ e) (Nat.le_refl _) ⟨Heap.get?_push_size _ rfl, z, its, r, IsTup.new _ _⟩, I.hok.fresh (Nat.le_refl _)⟩
def QT (Q : VK) (H : Hp) (xs : List V) : Prop := ∀ p o, H p = none → o.dict = none → Q (.ref p) (upd H p (.frz o (.tup xs)))
theorem pe_tupX {x1} (h : PA X es t) : PE X (.Tuple es x1 pos) (fun σ H Q => t σ H fun vs H1 => vs.length ≤ sizeLine ∧ QT Q H1 vs) := by
  refine ⟨fun pins s σ H Q I hq => ?_⟩
  refine wpAny_Tuple_spliced (thn (h.run pos pins s σ H _ I hq) fun us s1 ⟨xs, H1, I1, r, z, q⟩ => ⟨by rw [← r.length]; exact z, ?_⟩)
  obtain ⟨J, hn⟩ := Inv.tupX I1 r z
  exact ⟨.ref _, _, J, rfl, q _ _ hn rfl⟩
theorem call_tuple_ofX : CallR X (.type "tuple") (fun xs H Q => ∃ p ys, xs = [.ref p] ∧ ((SqL X.K H p ys ∧ QT Q H ys) ∨ (SqT X.K H p ys ∧ Q (.ref p) H))) := by
  intro pins s σ H xs us Q I r h
  obtain ⟨p, ys, rfl, h⟩ := h
  obtain ⟨u, rfl, rx⟩ := vals1 r
  cases rx
  rcases h with ⟨hq, q⟩ | ⟨hq, q⟩
  · obtain ⟨its, r', pl, hz⟩ := I.list hq
    have hl := r'.length
    refine call_tuple_list pl.isList (fun h' kp => ?_) (by simp only [List.size_toArray] <;> omega)
    obtain ⟨J, hn⟩ := Inv.tupX (I.kept (t' := s.toks) kp) r' hz
    exact ⟨.ref _, _, J, rfl, q _ _ hn rfl⟩
  · obtain ⟨its, r', pl, hz⟩ := I.tuple hq
    exact call_tuple_same pl ⟨.ref p, H, I, rfl, q⟩
def rSlX (K : PySem.W.Frag) : V → Option Int → Option Int → Hp → VK → Prop := fun x lo hi H Q => ∃ a xs, x = .ref a ∧ SqT K H a xs ∧
  (HT.sIx xs.length 0 lo = 0 ∧ HT.sIx xs.length xs.length hi = xs.length → Q (.ref a) H) ∧ (¬ (HT.sIx xs.length 0 lo = 0 ∧ HT.sIx xs.length xs.length hi = xs.length) → QT Q H (cutV xs lo hi))
theorem sl_tupX : SlR X (rSlX X.K) := by
  intro pins s σ H x v vl vu lo hi sl Q I rx hs pl pu h
  obtain ⟨a, xs, rfl, hx, q1, q2⟩ := h
  cases rx
  obtain ⟨its, r, ht, hz⟩ := I.tuple hx
  have hl : its.toArray.size = xs.length := by rw [List.size_toArray]; exact r.length.symm
  refine ⟨"tuple", _, PyProof.Rows.slot_tuple_getitem.lookup, ht.typeIs, ?_⟩
  by_cases hw : HT.sIx xs.length 0 lo = 0 ∧ HT.sIx xs.length xs.length hi = xs.length
  · exact getItem_tuple_whole ht hs pl pu (by rw [hl]; exact hw) ⟨.ref a, H, I, rfl, q1 hw⟩
  · refine HT.getItem_tuple_cut ht hs pl pu (by rw [hl]; exact hw) ?_ (by rw [hl]; exact hz)
    rw [hl]
    obtain ⟨J, hn⟩ := Inv.tupX I ((r.drop (HT.sIx xs.length 0 lo)).take (HT.sIx xs.length xs.length hi - HT.sIx xs.length 0 lo)) (Nat.le_trans (cutV_length xs lo hi) hz)
    exact ⟨.ref _, _, J, rfl, q2 hw _ _ hn rfl⟩
def rCatX (K : PySem.W.Frag) : R2 := fun x y H Q => ∃ a b xs ys, x = .ref a ∧ y = .ref b ∧ SqT K H a xs ∧ SqT K H b ys ∧ xs.length + ys.length ≤ sizeLine ∧
  (xs = [] → Q (.ref b) H) ∧ (xs ≠ [] → ys = [] → Q (.ref a) H) ∧ (xs ≠ [] → ys ≠ [] → QT Q H (xs ++ ys))
theorem op_catX : OpR X (binaryOp .Add) (rCatX X.K) := by
  intro pins s σ H x y v u Q I rx ry h
  obtain ⟨a, b, xs, ys, rfl, rfl, ha, hb, hz, q0, q1, q2⟩ := h
  cases rx
  cases ry
  obtain ⟨its, r1, p1, _⟩ := I.tuple ha
  obtain ⟨its2, r2, p2, _⟩ := I.tuple hb
  by_cases hx : xs = []
  · subst hx
    cases r1
    exact cat_tup0 p1 p2 ⟨.ref b, H, I, rfl, q0 rfl⟩
  · refine HT.cat_tup p1 p2 (fun z => hx (r1.nil_iff.mp z)) (fun z => ⟨.ref a, H, I, rfl, q1 hx (r2.nil_iff.mp z)⟩) (fun z => ?_) (by rw [← r1.length, ← r2.length]; exact hz)
    obtain ⟨J, hn⟩ := Inv.tupX I (r1.append r2) (by rw [List.length_append]; exact hz)
    exact ⟨.ref _, _, J, rfl, q2 hx (fun w => z (r2.nil_iff.mpr w)) _ _ hn rfl⟩
end
end M
namespace M
open PySem PySem.Spec PyProof.Rows L2

/-! ### closures -/
def cV (i : Nat) : CE := fun e => match e[i]? with
  | some (.dat d) => .ok d
  | some (.own l) => .ok (.bor l)
  | some (.owd ks ws) => .ok (.bdc ks ws)
  | _ => .bad
def cC (d : D) : CE := fun _ => .ok d
def ofO {α : Type} : Option α → Res α
  | some a => .ok a
  | none => .bad
def c1 (f : D → Option D) (A : CE) : CE := fun e => (A e).bind fun x => ofO (f x)
def c2 (f : D → D → Option D) (A B : CE) : CE := fun e => (A e).bind fun x => (B e).bind fun y => ofO (f x y)
def asB : D → Option Bool
  | .bl b => some b
  | _ => none
/-- a value as a test -/
def tV (A : CE) : CT := fun e => (A e).bind fun x => ofO (asB x)
def tNot (A : CT) : CT := fun e => (A e).bind fun b => .ok (!b)
def tAnd (A B : CT) : CT := fun e => (A e).bind fun b => match b with | true => B e | false => .ok false
def tOr (A B : CT) : CT := fun e => (A e).bind fun b => match b with | true => .ok true | false => B e
def cAnd (A B : CE) : CE := fun e => (A e).bind fun x => (ofO (asB x)).bind fun b => match b with | true => B e | false => .ok (.bl false)
def cOr (A B : CE) : CE := fun e => (A e).bind fun x => (ofO (asB x)).bind fun b => match b with | true => .ok (.bl true) | false => B e
def cNot (A : CE) : CE := fun e => (A e).bind fun x => (ofO (asB x)).bind fun b => .ok (.bl (!b))
def cIf (T : CT) (A B : CE) : CE := fun e => (T e).bind fun b => match b with | true => A e | false => B e
def aN : CA := fun _ => .ok []
def aC (A : CE) (B : CA) : CA := fun e => (A e).bind fun x => (B e).bind fun l => match x.solid with | true => .ok (x :: l) | false => .bad
/-- arguments that may be borrowed: one value -/
def cTup (A : CA) : CE := fun e => (A e).bind fun l => match Nat.ble l.length 1000000 with | true => .ok (.tup l) | false => .bad
def nLst (A : CA) : CA := fun e => (A e).bind fun l => match Nat.ble l.length 1000000 with | true => .ok l | false => .bad
/-- a new list as data -/
def cN (A : CA) : CE := fun e => (A e).bind fun l => .ok (.lst l)

theorem line_ok {n : Nat} (h : Nat.ble n 1000000 = true) : n ≤ sizeLine := by
  have h1 := Nat.le_of_ble_eq_true h
  rw [sizeLine_eq]; omega

section
variable {X : Cx} {cl : Nat → Value} {W : WX}

theorem pp_var {i : Nat} {x : Str} {pos : Pos} (h : PE X (.Name x pos) (tVar i)) : PP X cl W (.Name x pos) (cV i) := by
  refine PE.imp h fun σ H Q ⟨F, e, st, h⟩ => ?_
  unfold cV at h
  cases q : e[i]? with
  | none => rw [q] at h; exact h.elim
  | some s =>
    rw [q] at h
    have a := st.at_ i s q
    cases s with
    | no => exact h.elim
    | dat d =>
      obtain ⟨v, h1, h2⟩ := a
      exact ⟨v, h1, PostE.at h st.sub (.of h2)⟩
    | own l =>
      obtain ⟨a, vs, h1, h2, h3, h4⟩ := a
      exact ⟨_, h1, PostE.at h st.sub ⟨a, vs, rfl, h2, h4⟩⟩
    | owd ks ws =>
      obtain ⟨a, E, h1, h2, h3, h4⟩ := a
      exact ⟨_, h1, PostE.at h st.sub ⟨a, E, rfl, h2, h4⟩⟩
theorem pp_pv (i : Nat) {x : Str} {pos : Pos} (hN : X.N[i]? = some x := by rfl) (hv : Vis X.env.scope x := by first | exact Or.inl rfl | exact Or.inr (Or.inl rfl) | exact Or.inr (Or.inr rfl)) (hd : (x == ("__debug__" : Str)) = false := by decide)
    (hcd : (x == ("__classdict__" : Str)) = false := by decide) : PP X cl W (.Name x pos) (cV i) := pp_var (pe_var hN hv hd hcd)
theorem pp_c {e : Expr} {v : V} {d : D} (h : PE X e (tC v)) (r : ∀ F, Rd X.K F d v) : PP X cl W e (cC d) :=
  PE.imp h fun σ H Q ⟨F, e, st, h⟩ => PostE.at h st.sub (.of (r F))
theorem pp_int {i : Int} {j pos} : PP X cl W (.Constant (.int i) j pos) (cC (.int i)) := pp_c pe_int fun _ => .int i
theorem pp_bl {b : Bool} {j pos} : PP X cl W (.Constant (.bool b) j pos) (cC (.bl b)) := pp_c pe_bl fun _ => .bl b
theorem pp_non {j pos} : PP X cl W (.Constant .none j pos) (cC .non) := pp_c pe_non fun _ => .non
theorem pp_str {x : Str} {j pos} (h : PySem.PyData.strOk x = true := by decide +kernel) : PP X cl W (.Constant (.str x) j pos) (cC (.str x)) := pp_c pe_str fun _ => .str x h
theorem pp_glob {x : Str} {v : V} {u : Value} {d : D} {pos : Pos} (hg : Gl X x) (hm : X.mg x = some u) (r : RelV v u) (rd : ∀ F, Rd X.K F d v) (hd : (x == ("__debug__" : Str)) = false := by decide) : PP X cl W (.Name x pos) (cC d) := pp_c (pe_glob hg hm r hd) rd

/-! ### operators -/
def rP (K : PySem.W.Frag) (f : D → D → Option D) : R2 := fun x y H Q => ∃ F a b d, Same F H ∧ RdT K F H a x ∧ RdT K F H b y ∧ f a b = some d ∧ ∀ F' H' v, Ext F H F' H' → RdT K F' H' d v → Q v H'
def rU1 (K : PySem.W.Frag) (f : D → Option D) : V → Hp → VK → Prop := fun x H Q => ∃ F a d, Same F H ∧ RdT K F H a x ∧ f a = some d ∧ ∀ F' H' v, Ext F H F' H' → RdT K F' H' d v → Q v H'
theorem go2 {A B : CE} {f : D → D → Option D} {σ : St} {H : Hp} {Q : VK} (h : tp X.K cl W (c2 f A B) σ H Q) : tOp (rP X.K f) (tp X.K cl W A) (tp X.K cl W B) σ H Q := by
  obtain ⟨F, e, st, h⟩ := h
  refine go1E st h fun a F1 H1 v x1 st1 r1 h1 => go1E st1 h1 fun b F2 H2 u x2 st2 r2 h2 => ?_
  cases q : f a b with
  | none => rw [q] at h2; exact h2.elim
  | some d => rw [q] at h2; exact ⟨F2, a, b, d, st2.sub, r1.same x2.f x2.h, r2, q, h2⟩
theorem goU {A : CE} {f : D → Option D} {σ : St} {H : Hp} {Q : VK} (h : tp X.K cl W (c1 f A) σ H Q) : tUn (rU1 X.K f) (tp X.K cl W A) σ H Q := by
  obtain ⟨F, e, st, h⟩ := h
  refine go1E st h fun a F1 H1 v x1 st1 r1 h1 => ?_
  cases q : f a with
  | none => rw [q] at h1; exact h1.elim
  | some d => rw [q] at h1; exact ⟨F1, a, d, st1.sub, r1, q, h1⟩
theorem pp_op {op : Operator} {a b : Expr} {A B : CE} {f : D → D → Option D} {pos : Pos} (ho : OpR X (binaryOp op) (rP X.K f)) (ha : PP X cl W a A) (hb : PP X cl W b B) : PP X cl W (.BinOp a op b pos) (c2 f A B) := PE.imp (pe_op ho ha hb) fun _ _ _ => go2
theorem pp_un {op : UnaryOp} {a : Expr} {A : CE} {f : D → Option D} {pos : Pos} (ho : UnR X (unaryOp op) (rU1 X.K f)) (ha : PP X cl W a A) : PP X cl W (.UnaryOp op a pos) (c1 f A) := PE.imp (pe_un ho ha) fun _ _ _ => goU
theorem pp_cmp {op : CmpOp} {a b : Expr} {A B : CE} {f : D → D → Option D} {pos : Pos} (ho : OpR X (compareOp op) (rP X.K f)) (ha : PP X cl W a A) (hb : PP X cl W b B) (hm : behindInMarks op b = false) : PP X cl W (.Compare a [op] [b] pos) (c2 f A B) := PE.imp (pe_cmpR ho ha hb hm) fun _ _ _ => go2
theorem go_test {A : CE} {t : TE} (i : ∀ σ H Q, tp X.K cl W A σ H Q → t σ H Q) {σ : St} {H : Hp} {Q : Bool → Hp → Prop} (h : tt X.K cl W (tV A) σ H Q) : tTest t σ H Q := by
  obtain ⟨F, e, st, h⟩ := h
  refine i _ _ _ (go1T st h fun d F1 H1 v x1 st1 r1 h1 => ?_)
  cases d with
  | bl b => cases r1; exact ⟨b, rfl, PostT.at h1 st1.sub⟩
  | _ => exact h1.elim
theorem ppt_cmp {op : CmpOp} {a b : Expr} {A B : CE} {f : D → D → Option D} {pos : Pos} (ho : OpR X (compareOp op) (rP X.K f)) (ha : PP X cl W a A) (hb : PP X cl W b B) (hm : behindInMarks op b = false) : PPT X cl W (.Compare a [op] [b] pos) (tV (c2 f A B)) :=
  PT.imp (pt_cmpR ho ha hb hm) fun _ _ _ => go_test fun _ _ _ => go2
theorem ppt_val {a : Expr} {A : CE} (ha : PP X cl W a A) (he : ∀ whole, isTrue a X.env whole = (do let v ← whole; standAt a.pos; holding [v] (truthy v)) := by intro _; rfl) : PPT X cl W a (tV A) :=
  PT.imp (pt_val ha he) fun _ _ _ h => go_test (fun _ _ _ h => h) h

/-! ### is None -/
def isNonD : D → Option D
  | .non => some (.bl true)
  | _ => some (.bl false)
def notNonD : D → Option D
  | .non => some (.bl false)
  | _ => some (.bl true)
theorem rd_non {K : PySem.W.Frag} {F H : Hp} {d : D} {v : V} (r : RdT K F H d v) : isNonD d = some (.bl (decide (v = .non))) ∧ notNonD d = some (.bl (!decide (v = .non))) := by
  cases d with
  | non => cases r; exact ⟨rfl, rfl⟩
  | bor l => obtain ⟨a, vs, rfl, _⟩ := r; exact ⟨rfl, rfl⟩
  | bdc ks ws => obtain ⟨a, E, rfl, _⟩ := r; exact ⟨rfl, rfl⟩
  | _ => cases r <;> exact ⟨rfl, rfl⟩
theorem go_isN {A : CE} {σ : St} {H : Hp} {Q : VK} (h : tp X.K cl W (c1 isNonD A) σ H Q) : tIsN (tp X.K cl W A) σ H Q := by
  obtain ⟨F, e, st, h⟩ := h
  refine go1E st h fun a F1 H1 v x1 st1 r1 h1 => ?_
  rw [(rd_non r1).1] at h1
  exact PostE.at (d := .bl _) h1 st1.sub (.bl _)
theorem go_notN {A : CE} {σ : St} {H : Hp} {Q : VK} (h : tp X.K cl W (c1 notNonD A) σ H Q) : tNotN (tp X.K cl W A) σ H Q := by
  obtain ⟨F, e, st, h⟩ := h
  refine go1E st h fun a F1 H1 v x1 st1 r1 h1 => ?_
  rw [(rd_non r1).2] at h1
  exact PostE.at (d := .bl _) h1 st1.sub (.bl _)
theorem pp_isN {a : Expr} {A : CE} {j pos pos'} (ha : PP X cl W a A) : PP X cl W (.Compare a [.Is] [.Constant .none j pos'] pos) (c1 isNonD A) := PE.imp (pe_cmp (pc_isN ha)) fun _ _ _ => go_isN
theorem pp_notN {a : Expr} {A : CE} {j pos pos'} (ha : PP X cl W a A) : PP X cl W (.Compare a [.IsNot] [.Constant .none j pos'] pos) (c1 notNonD A) := PE.imp (pe_cmp (pc_notN ha)) fun _ _ _ => go_notN
theorem ppt_isN {a : Expr} {A : CE} {j pos pos'} (ha : PP X cl W a A) : PPT X cl W (.Compare a [.Is] [.Constant .none j pos'] pos) (tV (c1 isNonD A)) := PT.imp (pt_cmp (pc_isN ha)) fun _ _ _ => go_test fun _ _ _ => go_isN
theorem ppt_notN {a : Expr} {A : CE} {j pos pos'} (ha : PP X cl W a A) : PPT X cl W (.Compare a [.IsNot] [.Constant .none j pos'] pos) (tV (c1 notNonD A)) := PT.imp (pt_cmp (pc_notN ha)) fun _ _ _ => go_test fun _ _ _ => go_notN

/-! ### and, or, not, if -/
variable {a b c : Expr} {rest : List Expr} {pos : Pos} {A B : CE} {S T : CT}
theorem ppt_not (ha : PPT X cl W a T) : PPT X cl W (.UnaryOp .Not a pos) (tNot T) := PT.imp (pt_not ha) fun _ _ _ ⟨F, e, st, h⟩ => goTT st h fun b F1 H1 x1 st1 h1 => PostT.at h1 st1.sub
theorem ppw_and1 (ha : PPT X cl W a T) : PPW X cl W (.BoolOp .And [a] pos) T := pw_and1 ha
theorem ppw_or1 (ha : PPT X cl W a T) : PPW X cl W (.BoolOp .Or [a] pos) T := pw_or1 ha
theorem ppw_and (ha : PPT X cl W a S) (hb : PPW X cl W (.BoolOp .And (b :: rest) pos) T) : PPW X cl W (.BoolOp .And (a :: b :: rest) pos) (tAnd S T) := PW.imp (pw_and ha hb) fun _ _ _ ⟨F, e, st, h⟩ => goTT st h fun b F1 H1 x1 st1 h1 => by
  cases b with
  | true => exact iteT ⟨F1, e, st1, h1⟩
  | false => exact iteF (PostT.at h1 st1.sub)
theorem ppw_or (ha : PPT X cl W a S) (hb : PPW X cl W (.BoolOp .Or (b :: rest) pos) T) : PPW X cl W (.BoolOp .Or (a :: b :: rest) pos) (tOr S T) := PW.imp (pw_or ha hb) fun _ _ _ ⟨F, e, st, h⟩ => goTT st h fun b F1 H1 x1 st1 h1 => by
  cases b with
  | true => exact iteT (PostT.at h1 st1.sub)
  | false => exact iteF ⟨F1, e, st1, h1⟩
theorem PPW.pt {a : Expr} (h : PPW X cl W a T) : PPT X cl W a T := PW.pt h
theorem pp_one {op} (ha : PP X cl W a A) : PP X cl W (.BoolOp op [a] pos) A := pe_one ha
theorem pp_and (ha : PP X cl W a A) (hb : PP X cl W (.BoolOp .And (b :: rest) pos) B) : PP X cl W (.BoolOp .And (a :: b :: rest) pos) (cAnd A B) := PE.imp (pe_and ha hb) fun _ _ _ ⟨F, e, st, h⟩ => go1E st h fun d F1 H1 v x1 st1 r1 h1 => by
  cases d with
  | bl k =>
    cases r1
    refine ⟨k, rfl, ?_⟩
    cases k with
    | true => exact iteT ⟨F1, e, st1, h1⟩
    | false => exact iteF (PostE.at h1 st1.sub (.bl _))
  | _ => exact h1.elim
theorem pp_or (ha : PP X cl W a A) (hb : PP X cl W (.BoolOp .Or (b :: rest) pos) B) : PP X cl W (.BoolOp .Or (a :: b :: rest) pos) (cOr A B) := PE.imp (pe_or ha hb) fun _ _ _ ⟨F, e, st, h⟩ => go1E st h fun d F1 H1 v x1 st1 r1 h1 => by
  cases d with
  | bl k =>
    cases r1
    refine ⟨k, rfl, ?_⟩
    cases k with
    | true => exact iteT (PostE.at h1 st1.sub (.bl _))
    | false => exact iteF ⟨F1, e, st1, h1⟩
  | _ => exact h1.elim
theorem pp_not (ha : PP X cl W a A) : PP X cl W (.UnaryOp .Not a pos) (cNot A) := PE.imp (pe_not ha) fun _ _ _ ⟨F, e, st, h⟩ => go1E st h fun d F1 H1 v x1 st1 r1 h1 => by
  cases d with
  | bl k =>
    cases r1
    exact ⟨k, rfl, PostE.at h1 st1.sub (.bl _)⟩
  | _ => exact h1.elim
theorem pp_if {c : Expr} (hc : PPT X cl W c T) (ha : PP X cl W a A) (hb : PP X cl W b B) : PP X cl W (.IfExp c a b pos) (cIf T A B) := PE.imp (pe_ifExp hc ha hb) fun _ _ _ ⟨F, e, st, h⟩ => goTE st h fun b F1 H1 x1 st1 h1 => by
  cases b with
  | true => exact iteT ⟨F1, e, st1, h1⟩
  | false => exact iteF ⟨F1, e, st1, h1⟩

/-! ### displays, arguments -/
variable {es : List Expr} {L : CA}
theorem ppa_nil : PPA X cl W [] aN := PA.imp pa_nil fun _ _ _ ⟨F, e, st, h⟩ => PostA.at h st.sub .nil
theorem ppa_cons (ha : PP X cl W a A) (hr : PPA X cl W es L) (hs : starEach (a :: es) X.env = (false, eval a X.env) :: starEach es X.env := by rfl) : PPA X cl W (a :: es) (aC A L) := PA.imp (pa_cons ha hr hs) fun _ _ _ ⟨F, e, st, h⟩ => go1A st h fun d F1 H1 v x1 st1 r1 h1 => goAA st1 h1 fun l F2 H2 vs x2 st2 r2 h2 => by
  cases q : d.solid with
  | false => rw [q] at h2; exact h2.elim
  | true =>
    rw [q] at h2
    exact PostA.at h2 st2.sub (.cons ((r1.rd q).same x2.f) r2)
theorem pp_tup {x1} (h : PPA X cl W es L) : PP X cl W (.Tuple es x1 pos) (cTup L) := PE.imp (pe_tupX h) fun _ _ _ ⟨F, e, st, h⟩ => goAE st h fun l F1 H1 vs x1 st1 r1 h1 => by
  cases q : Nat.ble l.length 1000000 with
  | false => rw [q] at h1; exact h1.elim
  | true =>
    rw [q] at h1
    refine ⟨by rw [← r1.length]; exact line_ok q, fun p o np od => ?_⟩
    have y := Ext.put st1.sub np (.frz o (.tup vs))
    exact h1 _ _ _ y (.of (.tup (.of od) (r1.same y.f)))
theorem ppn_lst (h : PPA X cl W es L) : PPN X cl W (.List es pos) (nLst L) := PE.imp (pe_lst h) fun _ _ _ ⟨F, e, st, h⟩ => goAN st h fun l F1 H1 vs x1 st1 r1 h1 => by
  cases q : Nat.ble l.length 1000000 with
  | false => rw [q] at h1; exact h1.elim
  | true =>
    rw [q] at h1
    have z : vs.length ≤ sizeLine := by rw [← r1.length]; exact line_ok q
    exact ⟨z, fun p np => h1 F1 H1 p vs (Ext.refl st1.sub) np r1 z⟩
/-- a new list as data -/
theorem PPN.pp (h : PPN X cl W a L) : PP X cl W a (cN L) := PE.imp h fun _ H Q ⟨F, e, st, h⟩ => by
  refine ⟨F, e, st, ?_⟩
  unfold cN at h
  cases q : L e with
  | ok l =>
    rw [q] at h
    intro F' H' p vs x np r z
    have y := Ext.put x.sub np (.lst vs)
    exact h _ _ _ (x.trans y) (.of (.lst upd_same (r.same y.f)))
  | exc c => rw [q] at h; exact h
  | bad => rw [q] at h; exact h
end
end M
namespace M
open PySem PySem.Spec PyProof.Rows L2

/-! ### data as the library's -/
mutual
def toPy : D → PyData
  | .non => .none
  | .bl b => .bool b
  | .int i => .int i
  | .str x => .str x
  | .tup l => .tuple (toPyL l)
  | .lst l => .list (toPyL l)
  | .bor l => .list (toPyL l)
  | .dct _ _ => .none
  | .bdc _ _ => .none
def toPyL : List D → List PyData
  | [] => []
  | d :: l => toPy d :: toPyL l
end
/-! no dict in it -/
mutual
def pureD : D → Bool
  | .int _ => true
  | .tup l => pureL l
  | .lst l => pureL l
  | .bor l => pureL l
  | .dct _ _ => false
  | .bdc _ _ => false
  | .non => true
  | .bl _ => true
  | .str _ => true
def pureL : List D → Bool
  | [] => true
  | d :: l => (match pureD d with | true => pureL l | false => false)
end
theorem pureL_cons {d : D} {l : List D} (h : pureL (d :: l) = true) : pureD d = true ∧ pureL l = true := by
  simp only [pureL] at h
  cases q : pureD d with
  | false => rw [q] at h; cases h
  | true => rw [q] at h; exact ⟨rfl, h⟩
mutual
theorem Rd.dp {K : PySem.W.Frag} {F : Hp} : ∀ {d : D} {v : V}, pureD d = true → Rd K F d v → Dp K F v (toPy d) ∧ (toPy d).canLay0 = true
  | _, _, _, .non => ⟨.non, rfl⟩
  | _, _, _, .bl b => ⟨.bl b, rfl⟩
  | _, _, _, .int i => ⟨.int i, rfl⟩
  | _, _, _, .str x h => ⟨.str x, by simpa [toPy, PyData.canLay0] using h⟩
  | _, _, p, .tup s h => ⟨.tup s.sq (RdL.dp p h).1, by simpa [toPy, PyData.canLay0] using (RdL.dp p h).2⟩
  | _, _, p, .lst s h => ⟨.lst (.inl (.inl s)) (RdL.dp p h).1, by simpa [toPy, PyData.canLay0] using (RdL.dp p h).2⟩
  | _, _, p, .dct _ _ => nomatch p
theorem RdL.dp {K : PySem.W.Frag} {F : Hp} : ∀ {l : List D} {vs : List V}, pureL l = true → RdL K F l vs → DpAll K F vs (toPyL l) ∧ PyData.canLayAll0 (toPyL l) = true
  | _, _, _, .nil => ⟨.nil, rfl⟩
  | _, _, p, .cons r h => ⟨.cons (Rd.dp (pureL_cons p).1 r).1 (RdL.dp (pureL_cons p).2 h).1, by simp [toPyL, PyData.canLayAll0, (Rd.dp (pureL_cons p).1 r).2, (RdL.dp (pureL_cons p).2 h).2]⟩
end
mutual
theorem dp_same {K : PySem.W.Frag} {F H : Hp} (e : Same F H) : ∀ {v : V} {d : PyData}, Dp K F v d → Dp K H v d
  | _, _, .non => .non
  | _, _, .bl b => .bl b
  | _, _, .int i => .int i
  | _, _, .str x => .str x
  | _, _, .lst s h => .lst (e.seq s) (dpAll_same e h)
  | _, _, .tup s h => .tup (SqT.same e s) (dpAll_same e h)
theorem dpAll_same {K : PySem.W.Frag} {F H : Hp} (e : Same F H) : ∀ {vs : List V} {ds : List PyData}, DpAll K F vs ds → DpAll K H vs ds
  | _, _, .nil => .nil
  | _, _, .cons r h => .cons (dp_same e r) (dpAll_same e h)
end
theorem RdT.dp {K : PySem.W.Frag} {F H : Hp} (s : Same F H) {d : D} {v : V} (r : RdT K F H d v) (p : pureD d = true) : Dp K H v (toPy d) ∧ (toPy d).canLay0 = true := by
  cases d with
  | bor l =>
    obtain ⟨a, vs, rfl, h1, h2⟩ := r
    exact ⟨.lst (.inl (.inl h1)) (dpAll_same s (RdL.dp p h2).1), by simpa [toPy, PyData.canLay0] using (RdL.dp p h2).2⟩
  | bdc ks ws => cases p
  | _ => exact ⟨dp_same s (Rd.dp p r).1, (Rd.dp p r).2⟩

/-! ### equality -/
mutual
def eqB : D → D → Bool
  | .int i, y => (match y with | .int j => PySem.W.Z.eqB i j | .bl b => PySem.W.Z.eqB i (if b then 1 else 0) | _ => false)
  | .tup l, y => (match y with | .tup k => eqBL l k | _ => false)
  | .lst l, y => (match y with | .lst k => eqBL l k | .bor k => eqBL l k | _ => false)
  | .bor l, y => (match y with | .lst k => eqBL l k | .bor k => eqBL l k | _ => false)
  | .non, y => (match y with | .non => true | .dct _ _ => true | .bdc _ _ => true | _ => false)
  | .dct _ _, y => (match y with | .non => true | .dct _ _ => true | .bdc _ _ => true | _ => false)
  | .bdc _ _, y => (match y with | .non => true | .dct _ _ => true | .bdc _ _ => true | _ => false)
  | .bl b, y => (match y with | .bl c => b == c | .int j => PySem.W.Z.eqB (if b then 1 else 0) j | _ => false)
  | .str x, y => (match y with | .str z => x == z | _ => false)
def eqBL : List D → List D → Bool
  | [], k => (match k with | [] => true | _ :: _ => false)
  | x :: l, k => (match k with | [] => false | y :: r => (match eqB x y with | true => eqBL l r | false => false))
end
theorem zeq (i j : Int) : PySem.W.Z.eqB i j = (i == j) := by
  rw [Bool.eq_iff_iff, PySem.W.Z.eqB_iff]; simp
mutual
theorem eqB_py : ∀ d e : D, eqB d e = PyData.eqv (toPy d) (toPy e)
  | .int i, e => by cases e <;> simp [eqB, toPy, PyData.eqv, zeq]
  | .tup l, e => by cases e <;> simp [eqB, toPy, PyData.eqv, eqBL_py l]
  | .lst l, e => by cases e <;> simp [eqB, toPy, PyData.eqv, eqBL_py l]
  | .bor l, e => by cases e <;> simp [eqB, toPy, PyData.eqv, eqBL_py l]
  | .non, e => by cases e <;> simp [eqB, toPy, PyData.eqv]
  | .dct _ _, e => by cases e <;> simp [eqB, toPy, PyData.eqv]
  | .bdc _ _, e => by cases e <;> simp [eqB, toPy, PyData.eqv]
  | .bl b, e => by cases e <;> simp [eqB, toPy, PyData.eqv, zeq]
  | .str x, e => by cases e <;> simp [eqB, toPy, PyData.eqv]
theorem eqBL_py : ∀ l k : List D, eqBL l k = PyData.eqvAll (toPyL l) (toPyL k)
  | [], k => by cases k <;> simp [eqBL, toPyL, PyData.eqvAll]
  | x :: l, k => by
    cases k with
    | nil => simp [eqBL, toPyL, PyData.eqvAll]
    | cons y r =>
      simp only [eqBL, toPyL, PyData.eqvAll, ← eqB_py x y, ← eqBL_py l r]
      cases eqB x y <;> rfl
end
/-! no deeper than n -/
mutual
def lowD : D → Nat → Bool
  | .tup l, n => (match n with | 0 => false | n + 1 => lowL l n)
  | .lst l, n => (match n with | 0 => false | n + 1 => lowL l n)
  | .bor l, n => (match n with | 0 => false | n + 1 => lowL l n)
  | .non, _ => true
  | .bl _, _ => true
  | .int _, _ => true
  | .str _, _ => true
  | .dct _ _, _ => false
  | .bdc _ _, _ => false
def lowL : List D → Nat → Bool
  | [], _ => true
  | x :: l, n => (match lowD x n with | true => lowL l n | false => false)
end
mutual
theorem low_py : ∀ (d : D) (n : Nat), lowD d n = true → (toPy d).depth ≤ n
  | .tup l, n, h => by
    cases n with
    | zero => simp [lowD] at h
    | succ n => simp only [lowD] at h; have := lowL_py l n h; simp [toPy, PyData.depth]; omega
  | .lst l, n, h => by
    cases n with
    | zero => simp [lowD] at h
    | succ n => simp only [lowD] at h; have := lowL_py l n h; simp [toPy, PyData.depth]; omega
  | .bor l, n, h => by
    cases n with
    | zero => simp [lowD] at h
    | succ n => simp only [lowD] at h; have := lowL_py l n h; simp [toPy, PyData.depth]; omega
  | .non, n, _ => by simp [toPy, PyData.depth]
  | .bl _, n, _ => by simp [toPy, PyData.depth]
  | .int _, n, _ => by simp [toPy, PyData.depth]
  | .str _, n, _ => by simp [toPy, PyData.depth]
  | .dct _ _, n, h => nomatch h
  | .bdc _ _, n, h => nomatch h
theorem lowL_py : ∀ (l : List D) (n : Nat), lowL l n = true → PyData.depthAll (toPyL l) ≤ n
  | [], n, _ => by simp [toPyL, PyData.depthAll]
  | x :: l, n, h => by
    simp only [lowL] at h
    cases q : lowD x n with
    | false => rw [q] at h; cases h
    | true =>
      rw [q] at h
      have h1 := low_py x n q
      have h2 := lowL_py l n h
      simp [toPyL, PyData.depthAll]; omega
end
mutual
theorem low_pure : ∀ (d : D) (n : Nat), lowD d n = true → pureD d = true
  | .tup l, n, h => by
    cases n with
    | zero => simp [lowD] at h
    | succ n => simp only [lowD] at h; exact lowL_pure l n h
  | .lst l, n, h => by
    cases n with
    | zero => simp [lowD] at h
    | succ n => simp only [lowD] at h; exact lowL_pure l n h
  | .bor l, n, h => by
    cases n with
    | zero => simp [lowD] at h
    | succ n => simp only [lowD] at h; exact lowL_pure l n h
  | .non, n, _ => rfl
  | .bl _, n, _ => rfl
  | .int _, n, _ => rfl
  | .str _, n, _ => rfl
  | .dct _ _, n, h => nomatch h
  | .bdc _ _, n, h => nomatch h
theorem lowL_pure : ∀ (l : List D) (n : Nat), lowL l n = true → pureL l = true
  | [], n, _ => rfl
  | x :: l, n, h => by
    simp only [lowL] at h
    cases q : lowD x n with
    | false => rw [q] at h; cases h
    | true =>
      rw [q] at h
      simp only [pureL, low_pure x n q]
      exact lowL_pure l n h
end
/-- == : the right side not deep -/
def eqD (d e : D) : Option D := match lowD e 40 with
  | true => (match pureD d with | true => some (.bl (eqB d e)) | false => none)
  | false => none
def neD (d e : D) : Option D := match lowD e 40 with
  | true => (match pureD d with | true => some (.bl (!eqB d e)) | false => none)
  | false => none
def anyEq (d : D) : List D → Bool
  | [] => false
  | x :: l => match eqB x d with
    | true => true
    | false => anyEq d l
def seqOf : D → Option (List D)
  | .tup l => some l
  | .lst l => some l
  | .bor l => some l
  | _ => none
def inD (d e : D) : Option D := match lowD d 40 with
  | true => (match pureD e with | true => (seqOf e).map fun l => .bl (anyEq d l) | false => none)
  | false => none
def notInD (d e : D) : Option D := match lowD d 40 with
  | true => (match pureD e with | true => (seqOf e).map fun l => .bl (!anyEq d l) | false => none)
  | false => none
theorem anyEq_py (d : D) : ∀ l : List D, anyEq d l = (toPyL l).any fun z => PyData.eqv z (toPy d)
  | [] => rfl
  | x :: l => by
    simp only [anyEq, toPyL, List.any_cons, ← eqB_py x d, ← anyEq_py d l]
    cases eqB x d <;> rfl
section
variable {X : Cx}
theorem ext_same {F H : Hp} (s : Same F H) {Q : VK} {K : PySem.W.Frag} {d : D} {v : V} (h : ∀ F' H' v, Ext F H F' H' → RdT K F' H' d v → Q v H') (r : RdT K F H d v) : Q v H := h F H v (Ext.refl s) r
theorem op_eqP (hu : X.A.units + 64 < cLine) : OpR X (compareOp .Eq) (rP X.K eqD) := by
  intro pins s σ H x y v u Q I rx ry h
  obtain ⟨F, a, b, d, sm, ra, rb, e, q⟩ := h
  unfold eqD at e
  cases z : lowD b 40 with
  | false => rw [z] at e; cases e
  | true =>
    rw [z] at e
    simp only at e
    cases zp : pureD a with
    | false => rw [zp] at e; cases e
    | true =>
    rw [zp] at e
    cases e
    have d1 := ra.dp sm zp
    have d2 := rb.dp sm (low_pure b 40 z)
    obtain ⟨as, r1⟩ := Dp.reads I _ x v d1.1 rx
    obtain ⟨bs, r2⟩ := Dp.reads I _ y u d2.1 ry
    have hd := low_py b 40 z
    refine SeqAt.compareEq_reads r1 r2 d1.2 d2.2 (by omega) ⟨.bl _, H, I, rfl, ?_⟩
    rw [← eqB_py]
    exact ext_same sm q (.bl _)
theorem op_neP (hu : X.A.units + 64 < cLine) : OpR X (compareOp .NotEq) (rP X.K neD) := by
  intro pins s σ H x y v u Q I rx ry h
  obtain ⟨F, a, b, d, sm, ra, rb, e, q⟩ := h
  unfold neD at e
  cases z : lowD b 40 with
  | false => rw [z] at e; cases e
  | true =>
    rw [z] at e
    simp only at e
    cases zp : pureD a with
    | false => rw [zp] at e; cases e
    | true =>
    rw [zp] at e
    cases e
    have d1 := ra.dp sm zp
    have d2 := rb.dp sm (low_pure b 40 z)
    obtain ⟨as, r1⟩ := Dp.reads I _ x v d1.1 rx
    obtain ⟨bs, r2⟩ := Dp.reads I _ y u d2.1 ry
    have hd := low_py b 40 z
    refine SeqAt.compareNe_reads r1 r2 d1.2 d2.2 (by omega) ⟨.bl _, H, I, rfl, ?_⟩
    rw [← eqB_py]
    exact ext_same sm q (.bl _)
theorem op_inP (hu : X.A.units + 64 < cLine) : OpR X (compareOp .In) (rP X.K inD) := by
  intro pins s σ H x y v u Q I rx ry h
  obtain ⟨F, a, b, d, sm, ra, rb, e, q⟩ := h
  unfold inD at e
  cases z : lowD a 40 with
  | false => rw [z] at e; cases e
  | true =>
    rw [z] at e
    simp only at e
    cases zp : pureD b with
    | false => rw [zp] at e; cases e
    | true =>
    rw [zp] at e
    have d1 := ra.dp sm (low_pure a 40 z)
    have d2 := rb.dp sm zp
    obtain ⟨as, r1⟩ := Dp.reads I _ x v d1.1 rx
    obtain ⟨bs, r2⟩ := Dp.reads I _ y u d2.1 ry
    have hd := low_py a 40 z
    cases b with
    | tup l => cases e; exact SeqAt.in_tuple_reads r2 r1 d2.2 d1.2 (by omega) ⟨.bl _, H, I, rfl, by rw [← anyEq_py]; exact ext_same sm q (.bl _)⟩
    | lst l => cases e; exact SeqAt.in_list_reads r2 r1 d2.2 d1.2 (by omega) ⟨.bl _, H, I, rfl, by rw [← anyEq_py]; exact ext_same sm q (.bl _)⟩
    | bor l => cases e; exact SeqAt.in_list_reads r2 r1 d2.2 d1.2 (by omega) ⟨.bl _, H, I, rfl, by rw [← anyEq_py]; exact ext_same sm q (.bl _)⟩
    | _ => cases e
theorem op_notInP (hu : X.A.units + 64 < cLine) : OpR X (compareOp .NotIn) (rP X.K notInD) := by
  intro pins s σ H x y v u Q I rx ry h
  obtain ⟨F, a, b, d, sm, ra, rb, e, q⟩ := h
  unfold notInD at e
  cases z : lowD a 40 with
  | false => rw [z] at e; cases e
  | true =>
    rw [z] at e
    simp only at e
    cases zp : pureD b with
    | false => rw [zp] at e; cases e
    | true =>
    rw [zp] at e
    have d1 := ra.dp sm (low_pure a 40 z)
    have d2 := rb.dp sm zp
    obtain ⟨as, r1⟩ := Dp.reads I _ x v d1.1 rx
    obtain ⟨bs, r2⟩ := Dp.reads I _ y u d2.1 ry
    have hd := low_py a 40 z
    cases b with
    | tup l => cases e; exact SeqAt.notIn_tuple_reads r2 r1 d2.2 d1.2 (by omega) ⟨.bl _, H, I, rfl, by rw [← anyEq_py]; exact ext_same sm q (.bl _)⟩
    | lst l => cases e; exact SeqAt.notIn_list_reads r2 r1 d2.2 d1.2 (by omega) ⟨.bl _, H, I, rfl, by rw [← anyEq_py]; exact ext_same sm q (.bl _)⟩
    | bor l => cases e; exact SeqAt.notIn_list_reads r2 r1 d2.2 d1.2 (by omega) ⟨.bl _, H, I, rfl, by rw [← anyEq_py]; exact ext_same sm q (.bl _)⟩
    | _ => cases e
end
end M
namespace M
open PySem PySem.Spec PyProof.Rows L2

/-! ### arithmetic -/
def inW (i : Int) : Bool := match i with
  | .ofNat n => Nat.blt n 18446744073709551616
  | .negSucc n => Nat.blt n 18446744073709551615
def mulOk (i j : Int) : Bool := match inW i with
  | true => true
  | false => match inW j with
    | true => true
    | false => Nat.blt (i.natAbs.log2 + j.natAbs.log2) 1000000
theorem inW_ok {i : Int} (h : inW i = true) : -(2 ^ 64) < i ∧ i < 2 ^ 64 := by
  cases i with
  | ofNat n => have := PySem.W.Z.blt_iff.mp (show Nat.blt n 18446744073709551616 = true from h); simp only [Int.ofNat_eq_natCast]; constructor <;> omega
  | negSucc n => have := PySem.W.Z.blt_iff.mp (show Nat.blt n 18446744073709551615 = true from h); constructor <;> omega
theorem mulOk_ok {i j : Int} (h : mulOk i j = true) : IntMulOk i j := by
  unfold mulOk at h
  cases q : inW i with
  | true => exact CMul.ok (.inl (inW_ok q))
  | false =>
    rw [q] at h
    cases q2 : inW j with
    | true => exact CMul.ok (.inr (inW_ok q2))
    | false =>
      rw [q2] at h
      exact CMulW.ok (PySem.W.Z.blt_iff.mp h)
def lenOk (n : Nat) : Bool := Nat.ble n 1000000
def addD (x y : D) : Option D := match x with
  | .int i => (match y with | .int j => some (.int (i + j)) | _ => none)
  | .tup l => (match y with | .tup k => (match lenOk (l.length + k.length) with | true => some (.tup (l ++ k)) | false => none) | _ => none)
  | .lst l => (match y with
    | .lst k => (match lenOk (l.length + k.length) with | true => some (.lst (l ++ k)) | false => none)
    | .bor k => (match lenOk (l.length + k.length) with | true => some (.lst (l ++ k)) | false => none)
    | _ => none)
  | .bor l => (match y with
    | .lst k => (match lenOk (l.length + k.length) with | true => some (.lst (l ++ k)) | false => none)
    | .bor k => (match lenOk (l.length + k.length) with | true => some (.lst (l ++ k)) | false => none)
    | _ => none)
  | _ => none
def subD (x y : D) : Option D := match x with
  | .int i => (match y with | .int j => some (.int (i - j)) | _ => none)
  | _ => none
def repOk (n : Nat) (k : Int) : Option Nat := match k with
  | .ofNat m => (match lenOk m with | true => (match lenOk (n * m) with | true => some m | false => none) | false => none)
  | .negSucc m => (match lenOk m with | true => some 0 | false => none)
def mulD (x y : D) : Option D := match x with
  | .int i => (match y with | .int j => (match mulOk i j with | true => some (.int (i * j)) | false => none) | _ => none)
  | .lst l => (match y with | .int k => (repOk l.length k).map fun m => .lst (List.replicate m l).flatten | _ => none)
  | .bor l => (match y with | .int k => (repOk l.length k).map fun m => .lst (List.replicate m l).flatten | _ => none)
  | _ => none
def modD (x y : D) : Option D := match x with
  | .int i => (match y with | .int j => (match PySem.W.Z.eqB j 0 with | false => some (.int (i.fmod j)) | true => none) | _ => none)
  | _ => none
def divOk (j : Int) : Bool := match j with
  | .ofNat n => (match Nat.beq n 0 with | true => false | false => Nat.blt n.log2 9000)
  | .negSucc n => Nat.blt n 1073741823
def divD (x y : D) : Option D := match x with
  | .int i => (match y with | .int j => (match divOk j with | true => some (.int (i.fdiv j)) | false => none) | _ => none)
  | _ => none
def powD (x y : D) : Option D := match x with
  | .int i => (match y with
    | .int j => (match j with
      | .ofNat n => (match Nat.ble n 1000 with | true => (match inW i with | true => some (.int (i ^ n)) | false => none) | false => none)
      | .negSucc _ => none)
    | _ => none)
  | _ => none
def negD (x : D) : Option D := match x with
  | .int i => some (.int (-i))
  | _ => none

section
variable {X : Cx}
theorem op_addP : OpR X (binaryOp .Add) (rP X.K addD) := by
  intro pins s σ H x y v u Q I rx ry h
  obtain ⟨F, a, b, d, sm, ra, rb, e, q⟩ := h
  have lists : ∀ {l k : List D}, (∃ p vs, x = .ref p ∧ H p = some (.lst vs) ∧ RdL X.K F l vs) → (∃ p vs, y = .ref p ∧ H p = some (.lst vs) ∧ RdL X.K F k vs) → (match lenOk (l.length + k.length) with | true => some (D.lst (l ++ k)) | false => none) = some d →
      wpAny (model X.prog X.w) X.A (binaryOp .Add v u) (EP X pins σ Q) X.xe s := fun {l k} ⟨p, vs, e1, h1, r1⟩ ⟨p', vs', e2, h2, r2⟩ e => by
    cases z : lenOk (l.length + k.length) with
    | false => rw [z] at e; cases e
    | true =>
      rw [z] at e
      cases e
      refine op_cat pins s σ H x y v u Q I rx ry ⟨p, p', vs, vs', e1, e2, h1, h2, by rw [← r1.length, ← r2.length]; exact line_ok z, fun t nt => ?_⟩
      have w := Ext.put sm nt (.lst (vs ++ vs'))
      exact q _ _ _ w (.of (.lst upd_same ((r1.append r2).same w.f)))
  cases a with
  | int i =>
    cases b with
    | int j => cases e; cases ra; cases rb; exact op_add pins s σ H _ _ v u Q I rx ry ⟨i, j, rfl, rfl, ext_same sm q (.int _)⟩
    | _ => cases e
  | tup l =>
    cases b with
    | tup k =>
      simp only [addD] at e
      cases z : lenOk (l.length + k.length) with
      | false => rw [z] at e; cases e
      | true =>
        rw [z] at e
        cases e
        cases ra with
        | tup h1 r1 =>
          rename_i p vs
          cases rb with
          | tup h2 r2 =>
            rename_i p' vs'
            refine op_catX pins s σ H _ _ v u Q I rx ry ⟨p, p', vs, vs', rfl, rfl, SqT.sameX sm h1, SqT.sameX sm h2, by rw [← r1.length, ← r2.length]; exact line_ok z, fun n1 => ?_, fun n1 n2 => ?_, fun n1 n2 t o nt od => ?_⟩
            · subst n1
              cases r1
              exact ext_same sm q (.of (.tup h2 r2))
            · subst n2
              cases r2
              rw [List.append_nil] at q
              exact ext_same sm q (.of (.tup h1 r1))
            · have w := Ext.put sm nt (.frz o (.tup (vs ++ vs')))
              exact q _ _ _ w (.of (.tup (.of od) ((r1.append r2).same w.f)))
    | _ => cases e
  | lst l =>
    cases ra with
    | lst h1 r1 =>
      cases b with
      | lst k => cases rb with | lst h2 r2 => exact lists ⟨_, _, rfl, sm _ _ h1, r1⟩ ⟨_, _, rfl, sm _ _ h2, r2⟩ e
      | bor k => obtain ⟨p, vs, e2, h2, r2⟩ := rb; exact lists ⟨_, _, rfl, sm _ _ h1, r1⟩ ⟨p, vs, e2, h2, r2⟩ e
      | _ => cases e
  | bor l =>
    obtain ⟨p, vs, e1, h1, r1⟩ := ra
    cases b with
    | lst k => cases rb with | lst h2 r2 => exact lists ⟨p, vs, e1, h1, r1⟩ ⟨_, _, rfl, sm _ _ h2, r2⟩ e
    | bor k => obtain ⟨p', vs', e2, h2, r2⟩ := rb; exact lists ⟨p, vs, e1, h1, r1⟩ ⟨p', vs', e2, h2, r2⟩ e
    | _ => cases e
  | _ => cases e
theorem op_subP : OpR X (binaryOp .Sub) (rP X.K subD) := by
  intro pins s σ H x y v u Q I rx ry h
  obtain ⟨F, a, b, d, sm, ra, rb, e, q⟩ := h
  cases a with
  | int i =>
    cases b with
    | int j => cases e; cases ra; cases rb; exact op_sub pins s σ H _ _ v u Q I rx ry ⟨i, j, rfl, rfl, ext_same sm q (.int _)⟩
    | _ => cases e
  | _ => cases e
theorem rep_ok {n m : Nat} {k : Int} (h : repOk n k = some m) : k.toNat = m ∧ -(2 ^ 63) ≤ k ∧ k < 2 ^ 63 ∧ n * k.toNat ≤ sizeLine := by
  have hs := sizeLine_eq
  cases k with
  | ofNat a =>
    simp only [repOk] at h
    cases z : lenOk a with
    | false => rw [z] at h; cases h
    | true =>
      rw [z] at h
      cases z2 : lenOk (n * a) with
      | false => rw [z2] at h; cases h
      | true =>
        rw [z2] at h
        cases h
        have h1 := Nat.le_of_ble_eq_true (show Nat.ble m 1000000 = true from z)
        have h2 := Nat.le_of_ble_eq_true (show Nat.ble (n * m) 1000000 = true from z2)
        have e : (Int.ofNat m).toNat = m := rfl
        rw [e]
        refine ⟨rfl, ?_, ?_, by omega⟩ <;> (show _ ; simp only [Int.ofNat_eq_natCast]; omega)
  | negSucc a =>
    simp only [repOk] at h
    cases z : lenOk a with
    | false => rw [z] at h; cases h
    | true =>
      rw [z] at h
      cases h
      have h1 := Nat.le_of_ble_eq_true (show Nat.ble a 1000000 = true from z)
      have e : (Int.negSucc a).toNat = 0 := rfl
      rw [e]
      refine ⟨rfl, by omega, by omega, by omega⟩
theorem op_mulP : OpR X (binaryOp .Mult) (rP X.K mulD) := by
  intro pins s σ H x y v u Q I rx ry h
  obtain ⟨F, a, b, d, sm, ra, rb, e, q⟩ := h
  have lists : ∀ {l : List D} {k : Int}, (∃ p vs, x = .ref p ∧ H p = some (.lst vs) ∧ RdL X.K F l vs) → y = .int k → (repOk l.length k).map (fun m => D.lst (List.replicate m l).flatten) = some d →
      wpAny (model X.prog X.w) X.A (binaryOp .Mult v u) (EP X pins σ Q) X.xe s := fun {l k} ⟨p, vs, e1, h1, r1⟩ e2 e => by
    cases z : repOk l.length k with
    | none => rw [z] at e; cases e
    | some m =>
      rw [z] at e
      cases e
      obtain ⟨z1, z2, z3, z4⟩ := rep_ok z
      refine op_rep pins s σ H x y v u Q I rx ry ⟨p, k, vs, e1, e2, h1, z2, z3, by rw [← r1.length]; exact z4, fun t nt => ?_⟩
      rw [z1]
      have w := Ext.put sm nt (.lst (List.replicate m vs).flatten)
      exact q _ _ _ w (.of (.lst upd_same ((r1.flatRep m).same w.f)))
  cases a with
  | int i =>
    cases b with
    | int j =>
      simp only [mulD] at e
      cases z : mulOk i j with
      | false => rw [z] at e; cases e
      | true =>
        rw [z] at e
        cases e; cases ra; cases rb
        obtain ⟨t, rfl⟩ := rx
        obtain ⟨t', rfl⟩ := ry
        exact mul_int ⟨.int _, H, I.tok _, ⟨_, rfl⟩, ext_same sm q (.int _)⟩ (mulOk_ok z)
    | _ => cases e
  | lst l =>
    cases b with
    | int k => cases ra with | lst h1 r1 => cases rb; exact lists ⟨_, _, rfl, sm _ _ h1, r1⟩ rfl e
    | _ => cases e
  | bor l =>
    cases b with
    | int k => obtain ⟨p, vs, e1, h1, r1⟩ := ra; cases rb; exact lists ⟨p, vs, e1, h1, r1⟩ rfl e
    | _ => cases e
  | _ => cases e
theorem op_modP : OpR X (binaryOp .Mod) (rP X.K modD) := by
  intro pins s σ H x y v u Q I rx ry h
  obtain ⟨F, a, b, d, sm, ra, rb, e, q⟩ := h
  cases a with
  | int i =>
    cases b with
    | int j =>
      simp only [modD] at e
      cases z : PySem.W.Z.eqB j 0 with
      | true => rw [z] at e; cases e
      | false =>
        rw [z] at e
        cases e; cases ra; cases rb
        exact op_modN pins s σ H _ _ v u Q I rx ry ⟨i, j, rfl, rfl, (fun c => by rw [(PySem.W.Z.eqB_iff j 0).mpr c] at z; exact nomatch z), ext_same sm q (.int _)⟩
    | _ => cases e
  | _ => cases e
theorem op_divP : OpR X (binaryOp .FloorDiv) (rP X.K divD) := by
  intro pins s σ H x y v u Q I rx ry h
  obtain ⟨F, a, b, d, sm, ra, rb, e, q⟩ := h
  cases a with
  | int i =>
    cases b with
    | int j =>
      simp only [divD] at e
      cases z : divOk j with
      | false => rw [z] at e; cases e
      | true =>
        rw [z] at e
        cases e; cases ra; cases rb
        cases j with
        | ofNat n =>
          simp only [divOk] at z
          cases z0 : Nat.beq n 0 with
          | true => rw [z0] at z; cases z
          | false =>
            rw [z0] at z
            have n0 : n ≠ 0 := Nat.ne_of_beq_eq_false z0
            have zl : n.log2 < 9000 := PySem.W.Z.blt_iff.mp z
            refine op_fdivW pins s σ H _ _ v u Q I rx ry ⟨i, Int.ofNat n, rfl, rfl, ⟨by simp only [Int.ofNat_eq_natCast]; omega, zl⟩, ?_⟩
            have := ext_same sm q (.int _)
            rw [Int.fdiv_eq_ediv_of_nonneg i (by simp)] at this
            exact this
        | negSucc n =>
          have zl : n < 1073741823 := PySem.W.Z.blt_iff.mp z
          exact op_fdivN pins s σ H _ _ v u Q I rx ry ⟨i, Int.negSucc n, rfl, rfl, ⟨by omega, by show n + 1 < 1073741824; omega⟩, ext_same sm q (.int _)⟩
    | _ => cases e
  | _ => cases e
theorem op_powP : OpR X (binaryOp .Pow) (rP X.K powD) := by
  intro pins s σ H x y v u Q I rx ry h
  obtain ⟨F, a, b, d, sm, ra, rb, e, q⟩ := h
  cases a with
  | int i =>
    cases b with
    | int j =>
      cases j with
      | negSucc n => cases e
      | ofNat n =>
        simp only [powD] at e
        cases z : Nat.ble n 1000 with
        | false => rw [z] at e; cases e
        | true =>
          rw [z] at e
          cases z2 : inW i with
          | false => rw [z2] at e; cases e
          | true =>
            rw [z2] at e
            cases e; cases ra; cases rb
            have hn := Nat.le_of_ble_eq_true z
            have hw := inW_ok z2
            refine op_pow pins s σ H _ _ v u Q I rx ry ⟨i, Int.ofNat n, rfl, rfl, ⟨by simp, by simp only [Int.ofNat_eq_natCast]; omega, by omega⟩, ext_same sm q (.int _)⟩
    | _ => cases e
  | _ => cases e
theorem un_negP : UnR X (unaryOp .USub) (rU1 X.K negD) := by
  intro pins s σ H x v Q I rx h
  obtain ⟨F, a, d, sm, ra, e, q⟩ := h
  cases a with
  | int i => cases e; cases ra; exact un_neg pins s σ H _ v Q I rx ⟨i, rfl, ext_same sm q (.int _)⟩
  | _ => cases e

/-! ### order -/
def lexI : List D → List D → Option Bool
  | [], k => (match k with | [] => some false | _ :: _ => some true)
  | x :: l, k => (match k with
    | [] => some false
    | y :: r => (match x with
      | .int i => (match y with | .int j => (match PySem.W.Z.eqB i j with | true => lexI l r | false => some (PySem.W.Z.ltB i j)) | _ => none)
      | _ => none))
def ltD (x y : D) : Option D := match x with
  | .int i => (match y with | .int j => some (.bl (PySem.W.Z.ltB i j)) | _ => none)
  | _ => none
def leD (x y : D) : Option D := match x with
  | .int i => (match y with | .int j => some (.bl (PySem.W.Z.leB i j)) | _ => none)
  | _ => none
def gtD (x y : D) : Option D := match x with
  | .int i => (match y with | .int j => some (.bl (PySem.W.Z.ltB j i)) | _ => none)
  | _ => none
def geD (x y : D) : Option D := match x with
  | .int i => (match y with | .int j => some (.bl (PySem.W.Z.leB j i)) | _ => none)
  | _ => none
theorem zlt (i j : Int) : decide (i < j) = PySem.W.Z.ltB i j := by rw [Bool.eq_iff_iff, PySem.W.Z.ltB_iff]; simp
theorem zle (i j : Int) : decide (i ≤ j) = PySem.W.Z.leB i j := by rw [Bool.eq_iff_iff, PySem.W.Z.leB_iff]; simp
theorem op_ltP : OpR X (compareOp .Lt) (rP X.K ltD) := by
  intro pins s σ H x y v u Q I rx ry h
  obtain ⟨F, a, b, d, sm, ra, rb, e, q⟩ := h
  cases a with
  | int i =>
    cases b with
    | int j => cases e; cases ra; cases rb; exact op_lt pins s σ H _ _ v u Q I rx ry ⟨i, j, rfl, rfl, by dsimp only; rw [zlt]; exact ext_same sm q (.bl _)⟩
    | _ => cases e
  | _ => cases e
theorem op_leP : OpR X (compareOp .LtE) (rP X.K leD) := by
  intro pins s σ H x y v u Q I rx ry h
  obtain ⟨F, a, b, d, sm, ra, rb, e, q⟩ := h
  cases a with
  | int i =>
    cases b with
    | int j => cases e; cases ra; cases rb; exact op_le pins s σ H _ _ v u Q I rx ry ⟨i, j, rfl, rfl, by dsimp only; rw [zle]; exact ext_same sm q (.bl _)⟩
    | _ => cases e
  | _ => cases e
theorem op_gtP : OpR X (compareOp .Gt) (rP X.K gtD) := by
  intro pins s σ H x y v u Q I rx ry h
  obtain ⟨F, a, b, d, sm, ra, rb, e, q⟩ := h
  cases a with
  | int i =>
    cases b with
    | int j => cases e; cases ra; cases rb; exact op_gt pins s σ H _ _ v u Q I rx ry ⟨i, j, rfl, rfl, by dsimp only; rw [zlt]; exact ext_same sm q (.bl _)⟩
    | _ => cases e
  | _ => cases e
theorem op_geP : OpR X (compareOp .GtE) (rP X.K geD) := by
  intro pins s σ H x y v u Q I rx ry h
  obtain ⟨F, a, b, d, sm, ra, rb, e, q⟩ := h
  cases a with
  | int i =>
    cases b with
    | int j => cases e; cases ra; cases rb; exact op_ge pins s σ H _ _ v u Q I rx ry ⟨i, j, rfl, rfl, by dsimp only; rw [zle]; exact ext_same sm q (.bl _)⟩
    | _ => cases e
  | _ => cases e

/-! ### subscripts -/
def ixK (n : Nat) (i : Int) : Option Nat := match i with
  | .ofNat k => (match Nat.blt k n with | true => some k | false => none)
  | .negSucc k => (match Nat.blt k n with | true => some (n - (k + 1)) | false => none)
theorem ixK_ok (n : Nat) (i : Int) : ixK n i = ixN n i := by
  unfold ixN
  cases i with
  | ofNat k =>
    simp only [ixK, Int.ofNat_eq_natCast]
    rw [if_pos (by omega)]
    cases z : Nat.blt k n with
    | true => have := PySem.W.Z.blt_iff.mp z; rw [if_pos (by omega)]; simp
    | false =>
      rw [if_neg]
      intro c
      have : Nat.blt k n = true := PySem.W.Z.blt_iff.mpr (by omega)
      rw [this] at z; cases z
  | negSucc k =>
    simp only [ixK]
    rw [if_neg (by omega)]
    cases z : Nat.blt k n with
    | true => have := PySem.W.Z.blt_iff.mp z; rw [if_pos (by omega)]; simp only [Option.some.injEq]; omega
    | false =>
      rw [if_neg]
      intro c
      have : Nat.blt k n = true := PySem.W.Z.blt_iff.mpr (by omega)
      rw [this] at z; cases z
def nthD : List D → Nat → Option D
  | [], _ => none
  | x :: l, n => (match n with | 0 => some x | n + 1 => nthD l n)
theorem nthD_eq : ∀ (l : List D) (n : Nat), nthD l n = l[n]?
  | [], _ => rfl
  | x :: l, 0 => rfl
  | x :: l, n + 1 => by simp only [nthD, nthD_eq l n, List.getElem?_cons_succ]
/-- an item; small places at once -/
def atD (l : List D) (i : Int) : Option D := match i with
  | .ofNat k => nthD l k
  | .negSucc _ => (ixK l.length i).bind fun j => nthD l j
theorem atD_eq (l : List D) (i : Int) : atD l i = atI l i := by
  unfold atI
  cases i with
  | ofNat k =>
    rw [← ixK_ok]
    simp only [atD, ixK, nthD_eq]
    cases z : Nat.blt k l.length with
    | true => rfl
    | false =>
      have : l.length ≤ k := by
        apply Nat.le_of_not_lt
        intro c
        rw [PySem.W.Z.blt_iff.mpr c] at z; cases z
      simp [List.getElem?_eq_none this]
  | negSucc k =>
    rw [← ixK_ok]
    simp only [atD, nthD_eq]
def ixD (x y : D) : Option D := match y with
  | .int i => (match x with
    | .tup l => atD l i
    | .lst l => atD l i
    | .bor l => atD l i
    | _ => none)
  | _ => none
theorem RdL.atI {K : PySem.W.Frag} {F : Hp} {l : List D} {vs : List V} {i : Int} {d : D} (r : RdL K F l vs) (h : atD l i = some d) : ∃ v, L2.atI vs i = some v ∧ Rd K F d v := by
  rw [atD_eq] at h
  unfold L2.atI at h ⊢
  rw [← r.length]
  cases z : ixN l.length i with
  | none => rw [z] at h; cases h
  | some j =>
    rw [z] at h
    obtain ⟨v, a, b⟩ := r.get (i := j) h
    exact ⟨v, a, b⟩
theorem ix_P : IxR X (rP X.K ixD) := by
  intro value slice pins s σ H x y v u Q I rx ry h hs
  obtain ⟨F, a, b, d, sm, ra, rb, e, q⟩ := h
  cases b with
  | int i =>
    cases rb
    cases a with
    | tup l =>
      cases ra with
      | tup h1 r1 =>
        obtain ⟨w, e1, r2⟩ := r1.atI e
        exact ix_tup value slice pins s σ H _ _ v u Q I rx ry ⟨_, _, i, w, rfl, rfl, SqT.sameX sm h1, e1, ext_same sm q (.of r2)⟩ hs
    | lst l =>
      cases ra with
      | lst h1 r1 =>
        obtain ⟨w, e1, r2⟩ := r1.atI e
        exact ix_list value slice pins s σ H _ _ v u Q I rx ry ⟨_, _, i, w, rfl, rfl, .inl (.inl (sm _ _ h1)), e1, ext_same sm q (.of r2)⟩ hs
    | bor l =>
      obtain ⟨p, vs, rfl, h1, r1⟩ := ra
      obtain ⟨w, e1, r2⟩ := r1.atI e
      exact ix_list value slice pins s σ H _ _ v u Q I rx ry ⟨_, _, i, w, rfl, rfl, .inl (.inl h1), e1, ext_same sm q (.of r2)⟩ hs
    | _ => cases e
  | _ => cases e
end
section
variable {X : Cx} {cl : Nat → Value} {W : WX} {a b : Expr} {A B : CE} {pos : Pos}
theorem pp_ix (ha : PP X cl W a A) (hb : PP X cl W b B) (hs : PlainIx b := by exact fun _ _ => rfl) : PP X cl W (.Subscript a b pos) (c2 ixD A B) := PE.imp (pe_ix ix_P ha hb hs) fun _ _ _ => go2
end
end M
namespace M
open PySem PySem.Spec PyProof.Rows L2

/-! ### slices -/
def ixS (n d : Nat) : Option Int → Nat
  | none => d
  | some v => (match v with
    | .ofNat k => (match Nat.ble k n with | true => k | false => n)
    | .negSucc k => n - (k + 1))
theorem ixS_eq (n d : Nat) (o : Option Int) : ixS n d o = HT.sIx n d o := by
  cases o with
  | none => rfl
  | some v =>
    cases v with
    | ofNat k =>
      show (match Nat.ble k n with | true => k | false => n) = (if (k : Int) < 0 then ((k : Int) + (n : Int)).toNat else min (k : Int).toNat n)
      rw [if_neg (by omega), Int.toNat_natCast]
      cases z : Nat.ble k n with
      | true => have := Nat.le_of_ble_eq_true z; show k = _; omega
      | false =>
        have : ¬ k ≤ n := fun c => by rw [Nat.ble_eq_true_of_le c] at z; cases z
        show n = _; omega
    | negSucc k =>
      show n - (k + 1) = (if Int.negSucc k < 0 then (Int.negSucc k + (n : Int)).toNat else min (Int.negSucc k).toNat n)
      rw [if_pos (by omega)]; omega
def cutL {α : Type} (xs : List α) (lo hi : Option Int) : List α := (xs.drop (ixS xs.length 0 lo)).take (ixS xs.length xs.length hi - ixS xs.length 0 lo)
def optI : D → Option Int
  | .int i => some i
  | _ => none
abbrev CO := En → Res (Option Int)
def oN : CO := fun _ => .ok none
def oS (A : CE) : CO := fun e => (A e).bind fun d => match d with | .int i => .ok (some i) | _ => .bad
def slD (d : D) (lo hi : Option Int) : Option D := match d with
  | .tup l => some (.tup (cutL l lo hi))
  | .lst l => some (.lst (cutL l lo hi))
  | .bor l => some (.lst (cutL l lo hi))
  | _ => none
def cSl (A : CE) (L U : CO) : CE := fun e => (A e).bind fun d => (L e).bind fun lo => (U e).bind fun hi => ofO (slD d lo hi)
theorem RdL.cut {K : PySem.W.Frag} {F : Hp} {l : List D} {vs : List V} (r : RdL K F l vs) (lo hi : Option Int) : RdL K F (cutL l lo hi) (cutV vs lo hi) := by
  unfold cutL cutV
  rw [ixS_eq, ixS_eq, r.length]
  exact (r.drop _).take _
section
variable {K : PySem.W.Frag} {cl : Nat → Value} {W : WX}
def PostO (F H : Hp) (σ : St) (Q : Option Int → Hp → Prop) : Res (Option Int) → Prop
  | .ok o => ∀ F' H', Ext F H F' H' → Q o H'
  | .exc c => ∀ F' H', Ext F H F' H' → W (cl c) none σ H'
  | .bad => False
end
def PPO (X : Cx) (cl : Nat → Value) (W : WX) (e : Option Expr) (A : CO) : Prop := PO X e (fun σ H Q => ∃ F ev, Stt X.K F ev σ H ∧ PostO (cl := cl) (W := W) F H σ Q (A ev))
theorem PO.imp {X : Cx} {e : Option Expr} {t t' : TO} (h : PO X e t) (i : ∀ σ H Q, t' σ H Q → t σ H Q) : PO X e t' := ⟨fun pins s σ H Q I q => h.run pins s σ H Q I (i σ H Q q)⟩
section
variable {X : Cx} {cl : Nat → Value} {W : WX} {a b : Expr} {A B : CE} {pos p2 : Pos}
theorem ppo_none : PPO X cl W none oN := PO.imp po_none fun _ H _ ⟨F, e, st, h⟩ => h F H (Ext.refl st.sub)
theorem ppo_some (ha : PP X cl W a A) : PPO X cl W (some a) (oS A) := PO.imp (po_some ha) fun σ H Q ⟨F, e, st, h⟩ => by
  refine ⟨F, e, st, ?_⟩
  unfold oS at h
  cases q : A e with
  | ok d =>
    rw [q] at h
    intro F' H' v x r
    cases d with
    | int i => cases r; exact ⟨i, rfl, h F' H' x⟩
    | _ => exact h.elim
  | exc c => rw [q] at h; exact h
  | bad => rw [q] at h; exact h
def rSlP (K : PySem.W.Frag) : V → Option Int → Option Int → Hp → VK → Prop := fun x lo hi H Q => ∃ F a d, Same F H ∧ RdT K F H a x ∧ slD a lo hi = some d ∧ ∀ F' H' v, Ext F H F' H' → RdT K F' H' d v → Q v H'
theorem sl_P : SlR X (rSlP X.K) := by
  intro pins s σ H x v vl vu lo hi sl Q I rx hs pl pu h
  obtain ⟨F, a, d, sm, ra, e, q⟩ := h
  have lists : ∀ {l : List D}, (∃ p vs, x = .ref p ∧ H p = some (.lst vs) ∧ RdL X.K F l vs) → d = .lst (cutL l lo hi) → ∃ T id, typeLookup (.type T) "__getitem__" = pure (some (.builtin id)) ∧ s.TypeIs v T ∧ wpAny (model X.prog X.w) X.A (getItem v (.ref sl)) (EP X pins σ Q) X.xe s :=
    fun {l} ⟨p, vs, e1, h1, r1⟩ ed => by
    subst ed
    refine sl_list pins s σ H x v vl vu lo hi sl Q I rx hs pl pu ⟨p, vs, e1, .inl (.inl h1), fun t nt => ?_⟩
    have w := Ext.put sm nt (.lst (cutV vs lo hi))
    exact q _ _ _ w (.of (.lst upd_same ((r1.cut lo hi).same w.f)))
  cases a with
  | tup l =>
    cases e
    cases ra with
    | tup h1 r1 =>
      rename_i p vs
      refine sl_tupX pins s σ H _ v vl vu lo hi sl Q I rx hs pl pu ⟨p, vs, rfl, SqT.sameX sm h1, fun hw => ?_, fun _ t o nt od => ?_⟩
      · have hw' : cutL l lo hi = l := by
          unfold cutL
          rw [ixS_eq, ixS_eq, r1.length, hw.1, hw.2, List.drop_zero, Nat.sub_zero, ← r1.length]
          exact List.take_length
        rw [hw'] at q
        exact ext_same sm q (.of (.tup h1 r1))
      · have w := Ext.put sm nt (.frz o (.tup (cutV vs lo hi)))
        exact q _ _ _ w (.of (.tup (.of od) ((r1.cut lo hi).same w.f)))
  | lst l => cases e; cases ra with | lst h1 r1 => exact lists ⟨_, _, rfl, sm _ _ h1, r1⟩ rfl
  | bor l => cases e; obtain ⟨p, vs, e1, h1, r1⟩ := ra; exact lists ⟨p, vs, e1, h1, r1⟩ rfl
  | _ => cases e
theorem pp_slice {lo hi : Option Expr} {L U : CO} (ha : PP X cl W a A) (hl : PPO X cl W lo L) (hu : PPO X cl W hi U) : PP X cl W (.Subscript a (.Slice lo hi none p2) pos) (cSl A L U) := PE.imp (pe_slice sl_P ha hl hu) fun σ H Q ⟨F, e, st, h⟩ => by
  refine go1E st h fun d F1 H1 v x1 st1 r1 h1 => ?_
  refine ⟨F1, e, st1, ?_⟩
  cases q : L e with
  | exc c => rw [q] at h1; exact h1
  | bad => rw [q] at h1; exact h1
  | ok lo =>
    rw [q] at h1
    intro F2 H2 x2
    refine ⟨F2, e, st1.ext x2, ?_⟩
    have h2 := PostE.ext (r := (U e).bind fun hi => ofO (slD d lo hi)) h1 x2
    cases q2 : U e with
    | exc c => rw [q2] at h2; exact h2
    | bad => rw [q2] at h2; exact h2
    | ok hi =>
      rw [q2] at h2
      intro F3 H3 x3
      have h3 := PostE.ext (r := ofO (slD d lo hi)) h2 x3
      cases q3 : slD d lo hi with
      | none => rw [q3] at h3; exact h3.elim
      | some z => rw [q3] at h3; exact ⟨F3, d, z, x3.sub, (r1.same x2.f x2.h).same x3.f x3.h, q3, h3⟩
end

/-! ### built-ins of one and two values -/
def rB1 (K : PySem.W.Frag) (f : D → Option D) : List V → Hp → VK → Prop := fun xs H Q => ∃ F a x d, xs = [x] ∧ Same F H ∧ RdT K F H a x ∧ f a = some d ∧ ∀ F' H' v, Ext F H F' H' → RdT K F' H' d v → Q v H'
def rB2 (K : PySem.W.Frag) (f : D → D → Option D) : List V → Hp → VK → Prop := fun xs H Q => ∃ F a x b y d, xs = [x, y] ∧ Same F H ∧ RdT K F H a x ∧ RdT K F H b y ∧ f a b = some d ∧ ∀ F' H' v, Ext F H F' H' → RdT K F' H' d v → Q v H'
section
variable {X : Cx} {cl : Nat → Value} {W : WX} {a b : Expr} {A B : CE} {pos p : Pos} {idn T : String} {x : Str}
theorem goB1 {f : D → Option D} {σ : St} {H : Hp} {Q : VK} (h : tp X.K cl W (c1 f A) σ H Q) : tCB (rB1 X.K f) (tCons (tp X.K cl W A) tNil) σ H Q := by
  obtain ⟨F, e, st, h⟩ := h
  refine go1E st h fun d F1 H1 v x1 st1 r1 h1 => ?_
  cases q : f d with
  | none => rw [q] at h1; exact h1.elim
  | some z => rw [q] at h1; exact ⟨F1, d, v, z, rfl, st1.sub, r1, q, h1⟩
theorem goB2 {f : D → D → Option D} {σ : St} {H : Hp} {Q : VK} (h : tp X.K cl W (c2 f A B) σ H Q) : tCB (rB2 X.K f) (tCons (tp X.K cl W A) (tCons (tp X.K cl W B) tNil)) σ H Q := by
  obtain ⟨F, e, st, h⟩ := h
  refine go1E st h fun d F1 H1 v x1 st1 r1 h1 => go1E st1 h1 fun d2 F2 H2 v2 x2 st2 r2 h2 => ?_
  cases q : f d d2 with
  | none => rw [q] at h2; exact h2.elim
  | some z => rw [q] at h2; exact ⟨F2, d, v, d2, v2, z, rfl, st2.sub, r1.same x2.f x2.h, r2, q, h2⟩
theorem pp_b1 {f : D → Option D} (hc : CallR X (.builtin idn) (rB1 X.K f)) (hg : Gl X x) (hm : X.mg x = none) (hv : bootBuiltins x = some (.builtin idn)) (ha : PP X cl W a A) (hn : x ≠ "__name__" := by decide) (hdb : (x == ("__debug__" : Str)) = false := by decide)
    (he : starEach [a] X.env = (false, eval a X.env) :: starEach [] X.env := by rfl) (hpl : (backTo pos (starEach [] X.env)).any (·.1) = false := by rfl) : PP X cl W (.Call (.Name x p) [a] [] pos) (c1 f A) :=
  PE.imp (pe_callB hc hg hm hv (pa_cons ha pa_nil he) hn hdb he hpl) fun _ _ _ => goB1
theorem pp_ty1 {f : D → Option D} (hc : CallR X (.type T) (rB1 X.K f)) (hg : Gl X x) (hm : X.mg x = none) (hv : bootBuiltins x = some (.type T)) (ha : PP X cl W a A) (hn : x ≠ "__name__" := by decide) (hdb : (x == ("__debug__" : Str)) = false := by decide)
    (he : starEach [a] X.env = (false, eval a X.env) :: starEach [] X.env := by rfl) (hpl : (backTo pos (starEach [] X.env)).any (·.1) = false := by rfl) : PP X cl W (.Call (.Name x p) [a] [] pos) (c1 f A) :=
  PE.imp (pe_callTy hc hg hm hv (pa_cons ha pa_nil he) hn hdb he hpl) fun _ _ _ => goB1
theorem pp_b2 {f : D → D → Option D} (hc : CallR X (.builtin idn) (rB2 X.K f)) (hg : Gl X x) (hm : X.mg x = none) (hv : bootBuiltins x = some (.builtin idn)) (ha : PP X cl W a A) (hb : PP X cl W b B) (hn : x ≠ "__name__" := by decide) (hdb : (x == ("__debug__" : Str)) = false := by decide)
    (he : starEach [a, b] X.env = (false, eval a X.env) :: starEach [b] X.env := by rfl) (he2 : starEach [b] X.env = (false, eval b X.env) :: starEach [] X.env := by rfl) (hpl : (backTo pos (starEach [b] X.env)).any (·.1) = false := by rfl) : PP X cl W (.Call (.Name x p) [a, b] [] pos) (c2 f A B) :=
  PE.imp (pe_callB hc hg hm hv (pa_cons ha (pa_cons hb pa_nil he2) he) hn hdb he hpl) fun _ _ _ => goB2

/-- len, abs, list, tuple, int -/
def lenD : D → Option D
  | .tup l => some (.int l.length)
  | .lst l => some (.int l.length)
  | .bor l => some (.int l.length)
  | _ => none
theorem call_lenP : CallR X (.builtin "len") (rB1 X.K lenD) := by
  intro pins s σ H xs us Q I r h
  obtain ⟨F, a, x, d, rfl, sm, ra, e, q⟩ := h
  refine call_len_seq pins s σ H _ us Q I r ?_
  cases a with
  | tup l => cases e; cases ra with | tup h1 r1 => exact ⟨_, _, rfl, .inr (SqT.sameX sm h1), by rw [← r1.length]; exact ext_same sm q (.int _)⟩
  | lst l => cases e; cases ra with | lst h1 r1 => exact ⟨_, _, rfl, .inl (.inl (.inl (sm _ _ h1))), by rw [← r1.length]; exact ext_same sm q (.int _)⟩
  | bor l => cases e; obtain ⟨p, vs, rfl, h1, r1⟩ := ra; exact ⟨_, _, rfl, .inl (.inl (.inl h1)), by rw [← r1.length]; exact ext_same sm q (.int _)⟩
  | _ => cases e
def absD : D → Option D
  | .int i => some (.int (match i with | .ofNat n => .ofNat n | .negSucc n => .ofNat (n + 1)))
  | _ => none
theorem call_absP : CallR X (.builtin "abs") (rB1 X.K absD) := by
  intro pins s σ H xs us Q I r h
  obtain ⟨F, a, x, d, rfl, sm, ra, e, q⟩ := h
  cases a with
  | int i =>
    cases e; cases ra
    refine call_abs pins s σ H _ us Q I r ⟨i, rfl, ?_⟩
    have z := ext_same sm q (.int _)
    cases i with
    | ofNat n => rw [if_neg (by simp)]; exact z
    | negSucc n => rw [if_pos (by omega)]; exact z
  | _ => cases e
def toLst : D → Option (List D)
  | .tup l => some l
  | .lst l => some l
  | .bor l => some l
  | _ => none
def listD (d : D) : Option D := (toLst d).map .lst
theorem call_listP : CallR X (.type "list") (rB1 X.K listD) := by
  intro pins s σ H xs us Q I r h
  obtain ⟨F, a, x, d, rfl, sm, ra, e, q⟩ := h
  refine call_list_of pins s σ H _ us Q I r ?_
  have fin : ∀ {l : List D} {vs : List V}, RdL X.K F l vs → d = .lst l → ∀ p, H p = none → Q (.ref p) (upd H p (.lst vs)) := fun {l vs} r1 ed p np => by
    subst ed
    have w := Ext.put sm np (.lst vs)
    exact q _ _ _ w (.of (.lst upd_same (r1.same w.f)))
  cases a with
  | tup l => cases e; cases ra with | tup h1 r1 => exact ⟨_, _, rfl, .inr (SqT.sameX sm h1), fin r1 rfl⟩
  | lst l => cases e; cases ra with | lst h1 r1 => exact ⟨_, _, rfl, .inl (.inl (.inl (sm _ _ h1))), fin r1 rfl⟩
  | bor l => cases e; obtain ⟨p, vs, rfl, h1, r1⟩ := ra; exact ⟨_, _, rfl, .inl (.inl (.inl h1)), fin r1 rfl⟩
  | _ => cases e
def tupleD (d : D) : Option D := (toLst d).map .tup
theorem call_tupleP : CallR X (.type "tuple") (rB1 X.K tupleD) := by
  intro pins s σ H xs us Q I r h
  obtain ⟨F, a, x, d, rfl, sm, ra, e, q⟩ := h
  refine call_tuple_ofX pins s σ H _ us Q I r ?_
  have fin : ∀ {l : List D} {vs : List V}, RdL X.K F l vs → d = .tup l → QT Q H vs := fun {l vs} r1 ed p o np od => by
    subst ed
    have w := Ext.put sm np (.frz o (.tup vs))
    exact q _ _ _ w (.of (.tup (.of od) (r1.same w.f)))
  cases a with
  | tup l => cases e; cases ra with | tup h1 r1 => exact ⟨_, _, rfl, .inr ⟨SqT.sameX sm h1, ext_same sm q (.of (.tup h1 r1))⟩⟩
  | lst l => cases e; cases ra with | lst h1 r1 => exact ⟨_, _, rfl, .inl ⟨.inl (.inl (sm _ _ h1)), fin r1 rfl⟩⟩
  | bor l => cases e; obtain ⟨p, vs, rfl, h1, r1⟩ := ra; exact ⟨_, _, rfl, .inl ⟨.inl (.inl h1), fin r1 rfl⟩⟩
  | _ => cases e
def intD : D → Option D
  | .int i => some (.int i)
  | .bl b => some (.int (match b with | true => 1 | false => 0))
  | _ => none
theorem call_intP : CallR X (.type "int") (rB1 X.K intD) := by
  intro pins s σ H xs us Q I r h
  obtain ⟨F, a, x, d, rfl, sm, ra, e, q⟩ := h
  refine call_int1 pins s σ H _ us Q I r ?_
  cases a with
  | int i => cases e; cases ra; exact .inl ⟨i, rfl, ext_same sm q (.int _)⟩
  | bl b => cases e; cases ra; exact .inr ⟨b, rfl, by cases b <;> exact ext_same sm q (.int _)⟩
  | _ => cases e
/-- all, any of a list of bools -/
def bools : List D → Option (List Bool)
  | [] => some []
  | x :: l => (match x with | .bl b => (bools l).map (b :: ·) | _ => none)
theorem bools_rd {K : PySem.W.Frag} {F : Hp} : ∀ {l : List D} {vs : List V} {bs : List Bool}, RdL K F l vs → bools l = some bs → vs = bs.map V.bl
  | _, _, _, .nil, h => by cases h; rfl
  | _, _, _, .cons (d := d) (l := l) r t, h => by
    cases d with
    | bl b =>
      cases r
      simp only [bools] at h
      cases q : bools l with
      | none => rw [q] at h; cases h
      | some bs => rw [q] at h; cases h; rw [bools_rd t q]; rfl
    | _ => cases h
def allB : List D → Option Bool
  | [] => some true
  | x :: l => (match x with | .bl b => (match allB l with | some r => some (b && r) | none => none) | _ => none)
def anyB : List D → Option Bool
  | [] => some false
  | x :: l => (match x with | .bl b => (match anyB l with | some r => some (b || r) | none => none) | _ => none)
theorem allB_eq : ∀ {l : List D} {b : Bool}, allB l = some b → ∃ bs, bools l = some bs ∧ bs.all id = b
  | [], _, h => by cases h; exact ⟨[], rfl, rfl⟩
  | d :: l, b, h => by
    cases d with
    | bl c =>
      simp only [allB] at h
      cases q : allB l with
      | none => rw [q] at h; cases h
      | some r =>
        rw [q] at h; cases h
        obtain ⟨bs, e1, e2⟩ := allB_eq q
        exact ⟨c :: bs, by simp [bools, e1], by simp [← e2]⟩
    | _ => cases h
theorem anyB_eq : ∀ {l : List D} {b : Bool}, anyB l = some b → ∃ bs, bools l = some bs ∧ bs.any id = b
  | [], _, h => by cases h; exact ⟨[], rfl, rfl⟩
  | d :: l, b, h => by
    cases d with
    | bl c =>
      simp only [anyB] at h
      cases q : anyB l with
      | none => rw [q] at h; cases h
      | some r =>
        rw [q] at h; cases h
        obtain ⟨bs, e1, e2⟩ := anyB_eq q
        exact ⟨c :: bs, by simp [bools, e1], by simp [← e2]⟩
    | _ => cases h
def lstOf : D → Option (List D)
  | .lst l => some l
  | .bor l => some l
  | _ => none
def allD (d : D) : Option D := (lstOf d).bind fun l => (allB l).map .bl
def anyD (d : D) : Option D := (lstOf d).bind fun l => (anyB l).map .bl
theorem RdT.lst {K : PySem.W.Frag} {F H : Hp} (sm : Same F H) {d : D} {v : V} {l : List D} (r : RdT K F H d v) (e : lstOf d = some l) : ∃ p vs, v = .ref p ∧ H p = some (.lst vs) ∧ RdL K F l vs := by
  cases d with
  | lst k => cases e; cases r with | lst h1 r1 => exact ⟨_, _, rfl, sm _ _ h1, r1⟩
  | bor k => cases e; exact r
  | _ => cases e
theorem call_allP (hc : X.calm = true) : CallR X (.builtin "all") (rB1 X.K allD) := by
  intro pins s σ H xs us Q I r h
  obtain ⟨F, a, x, d, rfl, sm, ra, e, q⟩ := h
  unfold allD at e
  cases z : lstOf a with
  | none => rw [z] at e; cases e
  | some l =>
    rw [z] at e
    obtain ⟨p, vs, rfl, h1, r1⟩ := ra.lst sm z
    simp only [Option.bind_some] at e
    cases z2 : allB l with
    | none => rw [z2] at e; cases e
    | some b =>
      rw [z2] at e; cases e
      obtain ⟨bs, e1, e2⟩ := allB_eq z2
      refine cr_all hc pins s σ H _ us Q I r ⟨p, bs, rfl, .inl (.inl ?_), by rw [e2]; exact ext_same sm q (.bl _)⟩
      rw [← bools_rd r1 e1]; exact h1
theorem call_anyP (hc : X.calm = true) : CallR X (.builtin "any") (rB1 X.K anyD) := by
  intro pins s σ H xs us Q I r h
  obtain ⟨F, a, x, d, rfl, sm, ra, e, q⟩ := h
  unfold anyD at e
  cases z : lstOf a with
  | none => rw [z] at e; cases e
  | some l =>
    rw [z] at e
    obtain ⟨p, vs, rfl, h1, r1⟩ := ra.lst sm z
    simp only [Option.bind_some] at e
    cases z2 : anyB l with
    | none => rw [z2] at e; cases e
    | some b =>
      rw [z2] at e; cases e
      obtain ⟨bs, e1, e2⟩ := anyB_eq z2
      refine cr_any hc pins s σ H _ us Q I r ⟨p, bs, rfl, .inl (.inl ?_), by rw [e2]; exact ext_same sm q (.bl _)⟩
      rw [← bools_rd r1 e1]; exact h1

/-! ### isinstance -/
inductive Ty where
  | int | bool | tuple | list | str
def Ty.nm : Ty → String
  | .int => "int" | .bool => "bool" | .tuple => "tuple" | .list => "list" | .str => "str"
def isT : D → Ty → Bool
  | .int _, t => (match t with | .int => true | _ => false)
  | .bl _, t => (match t with | .int => true | .bool => true | _ => false)
  | .tup _, t => (match t with | .tuple => true | _ => false)
  | .lst _, t => (match t with | .list => true | _ => false)
  | .bor _, t => (match t with | .list => true | _ => false)
  | .str _, t => (match t with | .str => true | _ => false)
  | .non, _ => false
  | .dct _ _, _ => false
  | .bdc _ _, _ => false
def tyNm : D → String
  | .int _ => "int" | .bl _ => "bool" | .tup _ => "tuple" | .lst _ => "list" | .bor _ => "list" | .str _ => "str" | .non => "NoneType" | .dct _ _ => "NoneType" | .bdc _ _ => "NoneType"
def dctQ : D → Bool
  | .dct _ _ => true
  | .bdc _ _ => true
  | _ => false
theorem kit_tab : ∀ n ∈ ["int", "bool", "tuple", "list", "str", "NoneType"], ∀ t ∈ ["int", "bool", "tuple", "list", "str"], kitB n t = some (n == t || (n == "bool" && t == "int")) := by decide +kernel
theorem isT_kit (d : D) (t : Ty) : kitB (tyNm d) t.nm = some (isT d t) := by
  have h := kit_tab (tyNm d) (by cases d <;> simp [tyNm]) t.nm (by cases t <;> simp [Ty.nm])
  rw [h]
  cases d <;> cases t <;> rfl
theorem tyx {K : PySem.W.Frag} {F H : Hp} (sm : Same F H) {d : D} {v : V} (r : RdT K F H d v) (nd : dctQ d = false) : TyX K H v (.type (tyNm d)) := by
  cases d with
  | dct _ _ => cases nd
  | bdc _ _ => cases nd
  | non => cases r; exact .base .non
  | bl b => cases r; exact .base (.bl b)
  | int i => cases r; exact .base (.int i)
  | str x => cases r; exact .base (.str x)
  | lst l => cases r with | lst h1 r1 => exact .base (.lst (sm _ _ h1))
  | bor l => obtain ⟨p, vs, rfl, h1, r1⟩ := r; exact .base (.lst h1)
  | tup l =>
    cases r with
    | tup h1 r1 =>
      rcases SqT.sameX sm h1 with (h | ⟨o, h⟩) | ⟨o, its, n, h, hc, _⟩
      · exact .base (.tup h)
      · exact .fTuple h
      · exact .kTuple h hc
def isiD (t : Ty) (d : D) : Option D := match dctQ d with | false => some (.bl (isT d t)) | true => none
def isiAny : List Ty → D → Bool
  | [], _ => false
  | t :: r, d => match isT d t with | true => true | false => isiAny r d
def isiTD (ts : List Ty) (d : D) : Option D := match dctQ d with | false => some (.bl (isiAny ts d)) | true => none
theorem pp_isi {t : Ty} {y : Str} {p2 : Pos} (hg : Gl X "isinstance") (hm : X.mg "isinstance" = none) (hgy : Gl X y) (hmy : X.mg y = none) (hvy : bootBuiltins y = some (.type t.nm)) (ha : PP X cl W a A) (hny : y ≠ "__name__" := by decide) (hdy : (y == ("__debug__" : Str)) = false := by decide)
    (he : starEach [a, .Name y p2] X.env = (false, eval a X.env) :: starEach [.Name y p2] X.env := by rfl) (hpl : (backTo pos (starEach [.Name y p2] X.env)).any (·.1) = false := by rfl) : PP X cl W (.Call (.Name "isinstance" p) [a, .Name y p2] [] pos) (c1 (isiD t) A) :=
  PE.imp (pe_callB call_isi hg hm boot_isinstance (pa_cons ha (pa_cons (pe_bltn (v := .ty t.nm) hgy hmy hvy rfl hny hdy) pa_nil) he) (by decide) (by decide) he hpl) fun σ H Q ⟨F, e, st, h⟩ => go1E st h fun d F1 H1 v x1 st1 r1 h1 => by
    cases nd : dctQ d with
    | true => simp only [isiD, nd] at h1; exact h1.elim
    | false =>
    simp only [isiD, nd] at h1
    exact
    ⟨v, .ty t.nm, .type (tyNm d), .type t.nm, isT d t, rfl, .ty _, tyx st1.sub r1 nd, kit_ty (isT_kit d t), PostE.at h1 st1.sub (.bl _)⟩
theorem kit_any {K : PySem.W.Frag} (d : D) : ∀ ts : List Ty, PySem.W.kitAny K (.type (tyNm d)) (ts.map fun t => .type t.nm) = some (isiAny ts d)
  | [] => kitAny_nil
  | t :: r => by
    refine kitAny_cons (kit_ty (isT_kit d t)) (fun z => ?_) (fun z => ?_)
    · rw [kit_any d r]; simp only [isiAny, z]
    · simp only [isiAny, z]
theorem pp_isi2 {t1 t2 : Ty} {y1 y2 : Str} {p2 p3 p4 : Pos} {k : Nat} (hg : Gl X "isinstance") (hm : X.mg "isinstance" = none) (hg1 : Gl X y1) (hm1 : X.mg y1 = none) (hv1 : bootBuiltins y1 = some (.type t1.nm)) (hg2 : Gl X y2) (hm2 : X.mg y2 = none) (hv2 : bootBuiltins y2 = some (.type t2.nm))
    (ha : PP X cl W a A) (hn1 : y1 ≠ "__name__" := by decide) (hd1 : (y1 == ("__debug__" : Str)) = false := by decide) (hn2 : y2 ≠ "__name__" := by decide) (hd2 : (y2 == ("__debug__" : Str)) = false := by decide)
    (he : starEach [a, .Tuple [.Name y1 p2, .Name y2 p3] k p4] X.env = (false, eval a X.env) :: starEach [.Tuple [.Name y1 p2, .Name y2 p3] k p4] X.env := by rfl) (hpl : (backTo pos (starEach [.Tuple [.Name y1 p2, .Name y2 p3] k p4] X.env)).any (·.1) = false := by rfl) :
    PP X cl W (.Call (.Name "isinstance" p) [a, .Tuple [.Name y1 p2, .Name y2 p3] k p4] [] pos) (c1 (isiTD [t1, t2]) A) :=
  PE.imp (pe_callB call_isiT hg hm boot_isinstance (pa_cons ha (pa_cons (pe_tup (pa_cons (pe_bltn (v := .ty t1.nm) hg1 hm1 hv1 rfl hn1 hd1) (pa_cons (pe_bltn (v := .ty t2.nm) hg2 hm2 hv2 rfl hn2 hd2) pa_nil))) pa_nil) he) (by decide) (by decide) he hpl) fun σ H Q ⟨F, e, st, h⟩ => go1E st h fun d F1 H1 v x1 st1 r1 h1 => by
    cases nd : dctQ d with
    | true => simp only [isiTD, nd] at h1; exact h1.elim
    | false =>
    simp only [isiTD, nd] at h1
    refine ⟨by show 2 ≤ sizeLine; decide, fun tq nt => ?_⟩
    have w := Ext.add st1.sub nt (.tup [.ty t1.nm, .ty t2.nm])
    exact ⟨v, tq, [.ty t1.nm, .ty t2.nm], .type (tyNm d), [.type t1.nm, .type t2.nm], isiAny [t1, t2] d, rfl, upd_same, .cons (.ty _) (.cons (.ty _) .nil), tyx w.sub (r1.same w.f w.h) nd, kit_any d [t1, t2], h1 _ _ _ w (.bl _)⟩
end

/-! ### defs of one's own -/
/-- a def's promise by its function -/
def spP (K : PySem.W.Frag) (cl : Nat → Value) (m : List D → Res D) : Sp := fun vs H Q E => ∃ F ds, Same F H ∧ RdL K F ds vs ∧ (match m ds with
  | .ok d => d.solid = true ∧ ∀ F' H' v, Ext F H F' H' → Rd K F' d v → Q v H'
  | .exc c => ∀ F' H', Ext F H F' H' → E (cl c) none H'
  | .bad => False)
structure Fm (P : Program) (w : World) (K : PySem.W.Frag) (mg : Str → Option Value) (base : Heap) (cl : Nat → Value) (k : Nat) (x : Str) (st : Stmt) (ps : List Str) (m : List D → Res D) : Prop where
  ex : ∃ (f : Addr) (fd : FuncData), mg x = some (.ref f) ∧ Fun K x x st f fd ∧ Binds K fd ps [] ∧ FnOk P w K mg base (L2.CX P w) k f fd ps (spP K cl m)
theorem Fm.mono {P : Program} {w : World} {K : PySem.W.Frag} {mg : Str → Option Value} {base : Heap} {cl : Nat → Value} {j k : Nat} {x : Str} {st : Stmt} {ps : List Str} {m : List D → Res D} (F : Fm P w K mg base cl j x st ps m) (h : j ≤ k) : Fm P w K mg base cl k x st ps m :=
  let ⟨f, fd, a, b, c, d⟩ := F.ex
  ⟨f, fd, a, b, c, d.mono h⟩
/-- m as far as it goes is n -/
def Le (n m : List D → Res D) : Prop := ∀ ds, n ds ≠ .bad → m ds = n ds
theorem Fm.le {P : Program} {w : World} {K : PySem.W.Frag} {mg : Str → Option Value} {base : Heap} {cl : Nat → Value} {k : Nat} {x : Str} {st : Stmt} {ps : List Str} {n m : List D → Res D} (F : Fm P w K mg base cl k x st ps m) (h : Le n m) : Fm P w K mg base cl k x st ps n :=
  let ⟨f, fd, a, b, c, d⟩ := F.ex
  ⟨f, fd, a, b, c, d.imp fun vs H Q E ⟨Fr, ds, s, r, q⟩ => ⟨Fr, ds, s, r, by
    cases z : n ds with
    | bad => rw [z] at q; exact q.elim
    | ok d => rw [h ds (by rw [z]; exact fun c => nomatch c), z]; rw [z] at q; exact q
    | exc c => rw [h ds (by rw [z]; exact fun c => nomatch c), z]; rw [z] at q; exact q⟩⟩
def cCall (m : List D → Res D) (L : CA) : CE := fun e => (L e).bind m
section
variable {X : Cx} {cl : Nat → Value} {W : WX} {a b : Expr} {es : List Expr} {L : CA} {pos p : Pos} {x : Str} {k : Nat} {st : Stmt} {ps : List Str} {m : List D → Res D}
theorem sp_go {σ : St} {F H : Hp} {Q : VK} {l : List D} {vs : List V} (sm : Same F H) (r : RdL X.K F l vs) (h : PostE X.K cl W F H σ Q (m l)) (hs : ∀ d, m l = .ok d → d.solid = true) : spP X.K cl m vs H Q (WE W σ) := by
  refine ⟨F, l, sm, r, ?_⟩
  cases q : m l with
  | ok d => rw [q] at h; exact ⟨hs d q, fun F' H' v x r => h F' H' v x (.of r)⟩
  | exc c => rw [q] at h; exact h
  | bad => rw [q] at h; exact h
/-- results of defs are not borrowed -/
def Solid (m : List D → Res D) : Prop := ∀ l d, m l = .ok d → d.solid = true
theorem pp_call (G : Fm X.prog X.w X.K X.mg X.base cl k x st ps m) (hs : Solid m) (hr : Room k X.A) (tk : Takes X W) (hg : Gl X x) (ha : PPA X cl W (a :: es) L) (hdb : (x == ("__debug__" : Str)) = false := by decide)
    (he : starEach (a :: es) X.env = (false, eval a X.env) :: starEach es X.env := by rfl) (hpl : (backTo pos (starEach es X.env)).any (·.1) = false := by rfl) : PP X cl W (.Call (.Name x p) (a :: es) [] pos) (cCall m L) := by
  obtain ⟨f, fd, hm, F, hb, ok⟩ := G.ex
  exact PE.imp (pe_callS ok hr hg hm F.kp hb (fun σ => passAt tk σ) ha hdb he hpl) fun σ H Q ⟨F, e, stt, h⟩ => goAE stt h fun l F1 H1 vs x1 st1 r1 h1 => sp_go st1.sub r1 h1 (hs l)
end
end M
namespace M
open PySem PySem.Spec PyProof.Rows L2

/-! ### what is walked -/
theorem RdL.get' {K : PySem.W.Frag} {F : Hp} : ∀ {l : List D} {vs : List V} {i : Nat} {v : V}, RdL K F l vs → vs[i]? = some v → ∃ d, l[i]? = some d ∧ Rd K F d v
  | _, _, _, _, .nil, e => by simp at e
  | _, _, 0, _, .cons r _, e => by simp at e; subst e; exact ⟨_, rfl, r⟩
  | _, _, i + 1, _, .cons _ h, e => by
    obtain ⟨v, a, b⟩ := RdL.get' (i := i) h (by simpa using e)
    exact ⟨v, by simpa using a, b⟩
/-- what a target's value is known to be: a tuple that is taken apart need not be one that stays -/
def RdG (K : PySem.W.Frag) (F : Hp) (tg : Expr) (d : D) (x : V) : Prop := match tg with
  | .Tuple _ _ _ => Rd K F d x ∨ ∃ l vs a, d = .tup l ∧ x = .ref a ∧ SqT K F a vs ∧ RdL K F l vs
  | _ => Rd K F d x
theorem RdG.of {K : PySem.W.Frag} {F : Hp} {tg : Expr} {d : D} {x : V} (h : Rd K F d x) : RdG K F tg d x := by
  unfold RdG
  split
  · exact .inl h
  · exact h
def Walks (K : PySem.W.Frag) (tg : Expr) (J : It) (l : List D) (F : Hp) : Prop := ∀ F' H', Same F F' → Same F' H' →
  (∀ i, i < l.length → J.go i H') ∧ (∀ i, l.length ≤ i → J.stop i H') ∧ ∀ i x H'', i < l.length → J.yld i H' x H'' → ∃ d F'', l[i]? = some d ∧ Ext F' H' F'' H'' ∧ RdG K F'' tg d x
def PostI (K : PySem.W.Frag) (cl : Nat → Value) (W : WX) (tg : Expr) (F H : Hp) (σ : St) (R : It → Hp → Prop) : Res (List D) → Prop
  | .ok l => ∀ J F' H', Ext F H F' H' → Walks K tg J l F' → R J H'
  | .exc c => ∀ F' H', Ext F H F' H' → W (cl c) none σ H'
  | .bad => False
def PPI (X : Cx) (cl : Nat → Value) (W : WX) (tg iter : Expr) (A : CA) : Prop := PI X tg iter (fun σ H R => ∃ F e, Stt X.K F e σ H ∧ PostI X.K cl W tg F H σ R (A e))
theorem PI.imp {X : Cx} {tg iter : Expr} {t t' : TI} (h : PI X tg iter t) (i : ∀ σ H R, t' σ H R → t σ H R) : PI X tg iter t' := ⟨fun pins s σ H R I q => h.run pins s σ H R I (i σ H R q)⟩
def iA (A : CE) : CA := fun e => (A e).bind fun d => match d with
  | .tup l => .ok l
  | .lst l => .ok l
  | _ => .bad
theorem walks_list {K : PySem.W.Frag} {F : Hp} {tg : Expr} {a : Addr} {vs : List V} {l : List D} (h : F a = some (.lst vs)) (r : RdL K F l vs) : Walks K tg (Itl K a) l F := fun F' H' s1 s2 => by
  have q : SqL K H' a vs := .inl (.inl (s2 _ _ (s1 _ _ h)))
  refine ⟨fun i hi => ?_, fun i hi => ⟨vs, q, by rw [← r.length]; exact hi⟩, fun i x H'' hi y => ?_⟩
  · obtain ⟨v, e, _⟩ := r.get (i := i) (d := l[i]) (by simp [hi])
    exact ⟨vs, v, q, e⟩
  · obtain ⟨rfl, y⟩ := y
    obtain ⟨d, e1, e2⟩ := r.get' (y vs q)
    exact ⟨d, F', e1, Ext.refl s2, .of (e2.same s1)⟩
theorem walks_tup {K : PySem.W.Frag} {F : Hp} {tg : Expr} {a : Addr} {vs : List V} {l : List D} (h : SqT K F a vs) (r : RdL K F l vs) : Walks K tg (Itt K a) l F := fun F' H' s1 s2 => by
  have q : SqT K H' a vs := SqT.same s2 (SqT.same s1 h)
  refine ⟨fun i hi => ?_, fun i hi => ⟨vs, q, by rw [← r.length]; exact hi⟩, fun i x H'' hi y => ?_⟩
  · obtain ⟨v, e, _⟩ := r.get (i := i) (d := l[i]) (by simp [hi])
    exact ⟨vs, v, q, e⟩
  · obtain ⟨rfl, y⟩ := y
    obtain ⟨d, e1, e2⟩ := r.get' (y vs q)
    exact ⟨d, F', e1, Ext.refl s2, .of (e2.same s1)⟩
def rngL : Nat → Int → List D
  | 0, _ => []
  | n + 1, i => .int i :: rngL n (i + 1)
theorem rngL_len : ∀ (n : Nat) (i : Int), (rngL n i).length = n
  | 0, _ => rfl
  | n + 1, i => by simp [rngL, rngL_len n (i + 1)]
theorem rngL_get : ∀ (n : Nat) (lo : Int) (i : Nat), i < n → (rngL n lo)[i]? = some (.int (lo + i))
  | 0, _, _, h => by omega
  | n + 1, lo, 0, _ => by simp [rngL]
  | n + 1, lo, i + 1, h => by
    rw [rngL, List.getElem?_cons_succ, rngL_get n (lo + 1) i (by omega)]
    congr 2; omega
theorem walks_rng {K : PySem.W.Frag} {F : Hp} {tg : Expr} (lo : Int) (n : Nat) : Walks K tg (Itr lo n) (rngL n lo) F := fun F' H' s1 s2 => by
  refine ⟨fun i hi => by rw [rngL_len] at hi; exact hi, fun i hi => by rw [rngL_len] at hi; exact hi, fun i x H'' hi y => ?_⟩
  obtain ⟨rfl, rfl⟩ := y
  rw [rngL_len] at hi
  exact ⟨_, F', rngL_get n lo i hi, Ext.refl s2, .of (.int _)⟩
section
variable {X : Cx} {cl : Nat → Value} {W : WX} {tg a b : Expr} {A B : CE}
theorem pi_any {l : Expr} {tl : TE} (hl : PE X l tl) : PI X tg l (fun σ H R => tl σ H fun x H1 => ∃ a, x = .ref a ∧ (((∃ xs, SqL X.K H1 a xs) ∧ R (Itl X.K a) H1) ∨ ((∃ xs, SqT X.K H1 a xs) ∧ R (Itt X.K a) H1))) := by
  refine ⟨fun pins s σ H R I h => ?_⟩
  refine thn (hl.run pins s σ H _ I h) fun v s1 ⟨x, H1, I1, r1, q1⟩ => ?_
  obtain ⟨a, e, q1⟩ := q1
  subst e
  cases r1
  rcases q1 with ⟨⟨xs, hq⟩, q⟩ | ⟨⟨xs, hq⟩, q⟩
  · obtain ⟨its, rv, p, hz⟩ := I1.list hq
    refine wpAny_pyIter_list p.isList ?_
    refine ⟨s1.heap.objs.size, [s1.heap.objs.size], _, _, H1, rfl, I1.kept (t' := s1.toks) fun b o e => Heap.get?_push_of_some _ e, turn_list a _, ⟨_, Heap.get?_push_size _ rfl, rfl, rfl⟩, fun b hb => ?_, q⟩
    have e : b = s1.heap.objs.size := by simpa using hb
    subst e
    exact I1.fpOk (Nat.le_refl _) (I1.hok.fresh (Nat.le_refl _))
  · obtain ⟨its, rv, p, hz⟩ := I1.tuple hq
    refine wpAny_pyIter_tuple (show s1.heap.IsTuple a its.toArray from p) ?_
    refine ⟨s1.heap.objs.size, [s1.heap.objs.size], _, _, H1, rfl, I1.kept (t' := s1.toks) fun b o e => Heap.get?_push_of_some _ e, turn_tuple a _, ⟨_, Heap.get?_push_size _ rfl, rfl, rfl⟩, fun b hb => ?_, q⟩
    have e : b = s1.heap.objs.size := by simpa using hb
    subst e
    exact I1.fpOk (Nat.le_refl _) (I1.hok.fresh (Nat.le_refl _))
theorem ppi_seq (ha : PP X cl W a A) : PPI X cl W tg a (iA A) := PI.imp (pi_any ha) fun σ H R ⟨F, e, st, h⟩ => by
  refine ⟨F, e, st, ?_⟩
  unfold iA at h
  cases q : A e with
  | exc c => rw [q] at h; exact h
  | bad => rw [q] at h; exact h
  | ok d =>
    rw [q] at h
    intro F' H' v x r
    cases d with
    | tup l => cases r with | tup h1 r1 => exact ⟨_, rfl, .inr ⟨⟨_, SqT.sameX x.sub h1⟩, h _ F' H' x (walks_tup h1.sq r1)⟩⟩
    | lst l => cases r with | lst h1 r1 => exact ⟨_, rfl, .inl ⟨⟨_, .inl (.inl (x.sub _ _ h1))⟩, h _ F' H' x (walks_list h1 r1)⟩⟩
    | _ => exact h.elim
def rngOk (i : Int) : Bool := match i with
  | .ofNat n => Nat.ble n 1000000
  | .negSucc n => Nat.ble n 1000000
theorem rngOk_ok {i : Int} (h : rngOk i = true) : -(2 ^ 62) ≤ i ∧ i < 2 ^ 62 := by
  cases i with
  | ofNat n => have := Nat.le_of_ble_eq_true (show Nat.ble n 1000000 = true from h); simp only [Int.ofNat_eq_natCast]; constructor <;> omega
  | negSucc n => have := Nat.le_of_ble_eq_true (show Nat.ble n 1000000 = true from h); constructor <;> omega
def rng1 (l : List D) : Option (List D) := match l with
  | [d] => (match d with | .int j => (match rngOk j with | true => some (rngL j.toNat 0) | false => none) | _ => none)
  | _ => none
def rng2 (l : List D) : Option (List D) := match l with
  | [d, d2] => (match d with | .int i => (match d2 with | .int j => (match rngOk i with | true => (match rngOk j with | true => some (rngL (j - i).toNat i) | false => none) | false => none) | _ => none) | _ => none)
  | _ => none
def iR (f : List D → Option (List D)) (L : CA) : CA := fun e => (L e).bind fun l => ofO (f l)
variable {p pos : Pos} {L : CA}
theorem goI {f : List D → Option (List D)} {R : List V → Hp → Prop} {R' : It → Hp → Prop} {σ : St} {F H : Hp} {e : En} (st : Stt X.K F e σ H) (h : PostI X.K cl W tg F H σ R' (iR f L e))
    (k : ∀ l r F' H' vs, f l = some r → Ext F H F' H' → RdL X.K F' l vs → (∀ J, Walks X.K tg J r F' → R' J H') → R vs H') : ta X.K cl W L σ H R := by
  refine ⟨F, e, st, ?_⟩
  unfold iR at h
  cases q : L e with
  | exc c => rw [q] at h; exact h
  | bad => rw [q] at h; exact h
  | ok l =>
    rw [q] at h
    intro F' H' vs x r
    cases q2 : f l with
    | some z =>
      have h' : PostI X.K cl W tg F H σ R' (ofO (f l)) := h
      rw [q2] at h'
      exact k l z F' H' vs q2 x r fun J w => h' J F' H' x w
    | none =>
      have h' : PostI X.K cl W tg F H σ R' (ofO (f l)) := h
      rw [q2] at h'; exact h'.elim
theorem ppi_rng1 (hg : Gl X "range") (hm : X.mg "range" = none) (ha : PPA X cl W [a] L) (hs : starEach [a] X.env = [(false, eval a X.env)] := by rfl) : PPI X cl W tg (.Call (.Name "range" p) [a] [] pos) (iR rng1 L) :=
  PI.imp (pi_range1 hg hm ha hs) fun σ H R ⟨F, e, st, h⟩ => goI st h fun l r F' H' vs e1 x rd k => by
    unfold rng1 at e1
    split at e1
    · split at e1
      · rename_i j
        cases z : rngOk j with
        | false => rw [z] at e1; cases e1
        | true =>
          rw [z] at e1; cases e1
          cases rd with
          | cons r1 r2 => cases r1; cases r2; exact ⟨j, rfl, (rngOk_ok z).1, (rngOk_ok z).2, k _ (walks_rng 0 _)⟩
      · cases e1
    · cases e1
theorem ppi_rng2 (hg : Gl X "range") (hm : X.mg "range" = none) (ha : PPA X cl W [a, b] L) (hs : starEach [a, b] X.env = [(false, eval a X.env), (false, eval b X.env)] := by rfl) (hs2 : starEach [b] X.env = [(false, eval b X.env)] := by rfl) : PPI X cl W tg (.Call (.Name "range" p) [a, b] [] pos) (iR rng2 L) :=
  PI.imp (pi_range2 hg hm ha hs hs2) fun σ H R ⟨F, e, st, h⟩ => goI st h fun l r F' H' vs e1 x rd k => by
    unfold rng2 at e1
    split at e1
    · split at e1
      · split at e1
        · rename_i _ _ i _ j
          cases z : rngOk i with
          | false => rw [z] at e1; cases e1
          | true =>
            rw [z] at e1
            cases z2 : rngOk j with
            | false => rw [z2] at e1; cases e1
            | true =>
              rw [z2] at e1; cases e1
              cases rd with
              | cons r1 r2 => cases r2 with | cons r2 r3 => cases r1; cases r2; cases r3; exact ⟨i, j, rfl, ⟨(rngOk_ok z).1, (rngOk_ok z).2, (rngOk_ok z2).1, (rngOk_ok z2).2⟩, k _ (walks_rng i _)⟩
        · cases e1
      · cases e1
    · cases e1
def zipL : List D → List D → List D
  | [], _ => []
  | x :: l, k => (match k with | [] => [] | y :: r => .tup [x, y] :: zipL l r)
def zipD (l : List D) : Option (List D) := match l with
  | [d, d2] => (match d with
    | .lst a => (match d2 with | .lst b => some (zipL a b) | _ => none)
    | .tup a => (match d2 with | .tup b => some (zipL a b) | _ => none)
    | _ => none)
  | _ => none
theorem zipL_len : ∀ (l k : List D), (zipL l k).length = min l.length k.length
  | [], _ => by simp [zipL]
  | x :: l, [] => by simp [zipL]
  | x :: l, y :: r => by simp only [zipL, List.length_cons, zipL_len l r]; omega
theorem zipL_get : ∀ (l k : List D) (i : Nat) (x y : D), l[i]? = some x → k[i]? = some y → (zipL l k)[i]? = some (.tup [x, y])
  | [], _, _, _, _, h, _ => by simp at h
  | x :: l, [], _, _, _, _, h => by simp at h
  | x :: l, y :: r, 0, _, _, h1, h2 => by simp at h1 h2; subst h1; subst h2; simp [zipL]
  | x :: l, y :: r, i + 1, a, b, h1, h2 => by
    rw [zipL, List.getElem?_cons_succ]
    exact zipL_get l r i a b (by simpa using h1) (by simpa using h2)
theorem walks_zip {K : PySem.W.Frag} {F : Hp} {es : List Expr} {kk : Nat} {tp : Pos} {J : It} {l k : List D} {xs ys : List V} (r : RdL K F l xs) (q : RdL K F k ys)
    (hgo : ∀ F' H', Same F F' → Same F' H' → ∀ i x y, xs[i]? = some x → ys[i]? = some y → J.go i H')
    (hst : ∀ F' H', Same F F' → Same F' H' → ∀ i, (xs.length ≤ i ∨ ys.length ≤ i) → J.stop i H')
    (hy : ∀ F' H', Same F F' → Same F' H' → ∀ i v H'', J.yld i H' v H'' → ∃ T x y, v = .ref T ∧ H' T = none ∧ H'' = upd H' T (.tup [x, y]) ∧ xs[i]? = some x ∧ ys[i]? = some y) : Walks K (.Tuple es kk tp) J (zipL l k) F := fun F' H' s1 s2 => by
  refine ⟨fun i hi => ?_, fun i hi => ?_, fun i v H'' hi yl => ?_⟩
  · rw [zipL_len] at hi
    obtain ⟨x, e1, _⟩ := r.get (i := i) (d := l[i]'(by omega)) (by simp)
    obtain ⟨y, e2, _⟩ := q.get (i := i) (d := k[i]'(by omega)) (by simp)
    exact hgo F' H' s1 s2 i x y e1 e2
  · rw [zipL_len, r.length, q.length] at hi
    exact hst F' H' s1 s2 i (by omega)
  · obtain ⟨T, x, y, rfl, nT, rfl, e1, e2⟩ := hy F' H' s1 s2 i v H'' yl
    obtain ⟨dx, a1, a2⟩ := r.get' e1
    obtain ⟨dy, b1, b2⟩ := q.get' e2
    have w := Ext.put s2 nT (.tup [x, y])
    exact ⟨_, _, zipL_get l k i dx dy a1 b1, w, .inr ⟨_, _, T, rfl, rfl, .of upd_same, .cons (a2.same (s1.trans w.f)) (.cons (b2.same (s1.trans w.f)) .nil)⟩⟩
theorem ppi_zip {elts : List Expr} {kk : Nat} {tpos : Pos} (hg : Gl X "zip") (hm : X.mg "zip" = none) (ha : PPA X cl W [a, b] L)
    (hs : starEach [a, b] X.env = (false, eval a X.env) :: starEach [b] X.env := by rfl) (hpl : (backTo pos (starEach [b] X.env)).any (·.1) = false := by rfl) : PPI X cl W (.Tuple elts kk tpos) (.Call (.Name "zip" p) [a, b] [] pos) (iR zipD L) :=
  PI.imp (RZ.pi_zipA hg hm ha hs hpl) fun σ H R ⟨F, e, st, h⟩ => goI st h fun l r F' H' vs e1 x rd k => by
    unfold zipD at e1
    split at e1
    · split at e1
      · split at e1
        · cases e1
          cases rd with
          | cons r1 r2 => cases r2 with | cons r2 r3 => cases r3; cases r1 with | lst h1 q1 => cases r2 with | lst h2 q2 =>
            rename_i p1 xs p2 ys
            have a1 : ∀ {F2 H2 : Hp}, Same F' F2 → Same F2 H2 → SqL X.K H2 p1 xs := fun s1 s2 => .inl (.inl (s2 _ _ (s1 _ _ h1)))
            have a2 : ∀ {F2 H2 : Hp}, Same F' F2 → Same F2 H2 → SqL X.K H2 p2 ys := fun s1 s2 => .inl (.inl (s2 _ _ (s1 _ _ h2)))
            refine ⟨p1, p2, xs, ys, rfl, .inl ⟨a1 (Same.refl _) x.sub, a2 (Same.refl _) x.sub, k _ (walks_zip q1 q2 (fun F2 H2 s1 s2 i x y ex ey => ⟨xs, ys, x, y, a1 s1 s2, a2 s1 s2, ex, ey⟩) (fun F2 H2 s1 s2 i hi => ⟨xs, ys, a1 s1 s2, a2 s1 s2, hi⟩) (fun F2 H2 s1 s2 i v H3 yl => ?_))⟩⟩
            obtain ⟨T, x, y, e1, e2, e3, e4, e5⟩ := yl
            exact ⟨T, x, y, e1, e2, e3, e4 _ (a1 s1 s2), e5 _ (a2 s1 s2)⟩
        · cases e1
      · split at e1
        · cases e1
          cases rd with
          | cons r1 r2 => cases r2 with | cons r2 r3 => cases r3; cases r1 with | tup h1 q1 => cases r2 with | tup h2 q2 =>
            rename_i p1 xs p2 ys
            have a1 : ∀ {F2 H2 : Hp}, Same F' F2 → Same F2 H2 → SqT X.K H2 p1 xs := fun s1 s2 => SqT.same s2 (SqT.sameX s1 h1)
            have a2 : ∀ {F2 H2 : Hp}, Same F' F2 → Same F2 H2 → SqT X.K H2 p2 ys := fun s1 s2 => SqT.same s2 (SqT.sameX s1 h2)
            refine ⟨p1, p2, xs, ys, rfl, .inr ⟨a1 (Same.refl _) x.sub, a2 (Same.refl _) x.sub, k _ (walks_zip q1 q2 (fun F2 H2 s1 s2 i x y ex ey => ⟨xs, ys, x, y, a1 s1 s2, a2 s1 s2, ex, ey⟩) (fun F2 H2 s1 s2 i hi => ⟨xs, ys, a1 s1 s2, a2 s1 s2, hi⟩) (fun F2 H2 s1 s2 i v H3 yl => ?_))⟩⟩
            obtain ⟨T, x, y, e1, e2, e3, e4, e5⟩ := yl
            exact ⟨T, x, y, e1, e2, e3, e4 _ (a1 s1 s2), e5 _ (a2 s1 s2)⟩
        · cases e1
      · cases e1
    · cases e1
end

/-! ### targets -/
abbrev CG := D → En → Option En
/-- own lists stay where they were -/
def OwnKeep (e : En) (σ : St) (e' : En) (σ' : St) : Prop := ∀ (i : Nat) (s : Sl), s.isOwn = true → e'[i]? = some s → e[i]? = some s ∧ σ'[i]? = σ[i]?
theorem OwnKeep.refl (e : En) (σ : St) : OwnKeep e σ e σ := fun _ _ _ h => ⟨h, rfl⟩
theorem OwnKeep.trans {e e1 e2 : En} {σ σ1 σ2 : St} (a : OwnKeep e σ e1 σ1) (b : OwnKeep e1 σ1 e2 σ2) : OwnKeep e σ e2 σ2 := fun i l o h => by
  obtain ⟨x, y⟩ := b i l o h
  obtain ⟨x', y'⟩ := a i l o x
  exact ⟨x', y.trans y'⟩
def tg (K : PySem.W.Frag) (t : Expr) (G : CG) : TG := fun v σ H Q => ∃ F e d e', Stt K F e σ H ∧ RdG K F t d v ∧ G d e = some e' ∧ ∀ σ', Stt K F e' σ' H → OwnKeep e σ e' σ' → Q σ' H
def PPG (X : Cx) (e : Expr) (G : CG) : Prop := PG X e (tg X.K e G)
theorem PG.imp {X : Cx} {e : Expr} {t t' : TG} (h : PG X e t) (i : ∀ v σ H Q, t' v σ H Q → t v σ H Q) : PG X e t' := ⟨fun pins s σ H v u Q I r q => h.run pins s σ H v u Q I r (i v σ H Q q)⟩
def gN (i : Nat) : CG := fun d e => some (e.set i (.dat d))
theorem Stt.set {K : PySem.W.Frag} {F : Hp} {e : En} {σ : St} {H : Hp} {i : Nat} {d : D} {v : V} (st : Stt K F e σ H) (r : Rd K F d v) : Stt K F (e.set i (.dat d)) (σ.set i (some v)) H ∧ OwnKeep e σ (e.set i (.dat d)) (σ.set i (some v)) := by
  have ok : OwnKeep e σ (e.set i (.dat d)) (σ.set i (some v)) := fun j l o h => by
    by_cases hj : i = j
    · subst hj
      by_cases hl : i < e.length
      · rw [List.getElem?_set_self hl] at h; cases h; cases o
      · rw [List.getElem?_eq_none (by simpa using hl)] at h; cases h
    · rw [List.getElem?_set_ne hj] at h
      exact ⟨h, by rw [List.getElem?_set_ne hj]⟩
  refine ⟨⟨st.sub, by simp [st.len], fun j s h => ?_, fun a b l l' p o1 o2 h1 h2 h3 h4 => ?_⟩, ok⟩
  · by_cases hj : i = j
    · subst hj
      by_cases hl : i < e.length
      · rw [List.getElem?_set_self hl] at h
        cases h
        exact ⟨v, by rw [List.getElem?_set_self (by rw [← st.len]; exact hl)], r⟩
      · rw [List.getElem?_eq_none (by simpa using hl)] at h; cases h
    · rw [List.getElem?_set_ne hj] at h
      rw [List.getElem?_set_ne hj]
      exact st.at_ j s h
  · obtain ⟨x1, y1⟩ := ok a l o1 h1
    obtain ⟨x2, y2⟩ := ok b l' o2 h2
    exact st.apart0 a b l l' p o1 o2 x1 x2 (y1 ▸ h3) (y2 ▸ h4)
section
variable {X : Cx}
theorem ppg_name {i : Nat} {x : Str} {pos : Pos} (hN : X.N.Nodup) (hi : X.N[i]? = some x) (hx : Loc X.env.scope x) (hf : X.fn x = true ∨ X.env.scope.names.lookup x = some .local := by first | exact .inl rfl | exact .inr rfl | assumption) : PPG X (.Name x pos) (gN i) :=
  PG.imp (pg_name hN hi hx hf) fun v σ H Q ⟨F, e, d, e', st, r, q, k⟩ => by
    cases q
    obtain ⟨a, b⟩ := st.set (i := i) r
    exact k _ a b
abbrev CGs := List D → En → Option En
def gsN : CGs := fun l e => match l with | [] => some e | _ :: _ => none
def gsC (G : CG) (Gs : CGs) : CGs := fun l e => match l with
  | [] => none
  | d :: r => (match G d e with | some e1 => Gs r e1 | none => none)
def gT (Gs : CGs) : CG := fun d e => match d with
  | .tup l => Gs l e
  | .lst l => Gs l e
  | _ => none
def PPGs (X : Cx) (es : List Expr) (n : Nat) (Gs : CGs) : Prop := PGs X es (fun vs σ H Q => ∃ F e l e', Stt X.K F e σ H ∧ RdL X.K F l vs ∧ Gs l e = some e' ∧ ∀ σ', Stt X.K F e' σ' H → OwnKeep e σ e' σ' → Q σ' H) ∧ ∀ l e e', Gs l e = some e' → l.length = n
theorem PGs.imp {X : Cx} {es : List Expr} {t t' : TGs} (h : PGs X es t) (i : ∀ v σ H Q, t' v σ H Q → t v σ H Q) : PGs X es t' := ⟨fun pins s σ H v u Q I r q => h.run pins s σ H v u Q I r (i v σ H Q q)⟩
theorem ppgs_nil : PPGs X [] 0 gsN := by
  refine ⟨PGs.imp pgs_nil fun vs σ H Q ⟨F, e, l, e', st, r, q, k⟩ => ?_, fun l e e' h => ?_⟩
  · cases r with
    | nil => cases q; exact ⟨rfl, k _ st (OwnKeep.refl _ _)⟩
    | cons _ _ => cases q
  · cases l with
    | nil => rfl
    | cons _ _ => cases h
theorem ppgs_cons {e : Expr} {es : List Expr} {G : CG} {Gs : CGs} {n : Nat} (h1 : PPG X e G) (h2 : PPGs X es n Gs) (hs : (assignEach (e :: es) X.env).map (·.2) = assign e X.env :: (assignEach es X.env).map (·.2) := by rfl) : PPGs X (e :: es) (n + 1) (gsC G Gs) := by
  refine ⟨PGs.imp (pgs_cons h1 h2.1 hs) fun vs σ H Q ⟨F, ev, l, e', st, r, q, k⟩ => ?_, fun l ev e' h => ?_⟩
  · cases r with
    | nil => cases q
    | @cons d l v vs r rr =>
      simp only [gsC] at q
      cases z : G d ev with
      | none => rw [z] at q; cases q
      | some e1 =>
        rw [z] at q
        exact ⟨v, vs, rfl, F, ev, d, e1, st, .of r, z, fun σ1 st1 k1 => ⟨F, e1, l, e', st1, rr, q, fun σ2 st2 k2 => k σ2 st2 (k1.trans k2)⟩⟩
  · cases l with
    | nil => cases h
    | cons d r =>
      simp only [gsC] at h
      cases z : G d ev with
      | none => rw [z] at h; cases h
      | some e1 => rw [z] at h; rw [List.length_cons, h2.2 _ _ _ h]
theorem ppg_tup {es : List Expr} {k : Nat} {pos : Pos} {Gs : CGs} {n : Nat} (hc : X.calm = true) (h : PPGs X es n Gs) (hn : (assignEach es X.env).length = n := by rfl) (hst : (assignEach es X.env).findIdx? (·.1) = none := by rfl) : PPG X (.Tuple es k pos) (gT Gs) :=
  ⟨fun pins s σ H v u Q I rv ⟨F, e, d, e', st, r, q, kq⟩ => by
    have key : ∀ {l : List D} {vs : List V} {a : Addr}, v = .ref a → SqT X.K F a vs → RdL X.K F l vs → Gs l e = some e' → wpAny (model X.prog X.w) X.A (assign (.Tuple es k pos) X.env u) (fun _ s' => ∃ σ' H', Inv X pins σ' H' s' ∧ Q σ' H') X.xe s := fun ev hs rl q => by
      subst ev
      exact (pg_tup hc h.1 hn hst).run pins s σ H _ u Q I rv ⟨_, _, rfl, SqT.same st.sub hs, by rw [← rl.length]; exact h.2 _ e e' q, F, e, _, e', st, rl, q, kq⟩
    rcases r with r | ⟨l, vs, a, rfl, ev, hs, rl⟩
    · cases d with
      | tup l =>
        cases r with
        | tup h1 r1 => exact key rfl h1.sq r1 q
      | lst l =>
        cases r with
        | lst h1 r1 => exact (pg_lst hc h.1 hn hst).run pins s σ H _ u Q I rv ⟨_, _, rfl, .inl (.inl (st.sub _ _ h1)), by rw [← r1.length]; exact h.2 l e e' q, F, e, l, e', st, r1, q, kq⟩
      | _ => cases q
    · exact key ev hs rl q⟩
end
end M
namespace M
open PySem PySem.Spec PyProof.Rows L2

/-! ### list comprehensions -/
def wipeE (e : En) : List Nat → En
  | [] => e
  | v :: vs => (wipeE e vs).set v .no
theorem Stt.unset {K : PySem.W.Frag} {F : Hp} {e : En} {σ : St} {H : Hp} {i : Nat} (st : Stt K F e σ H) : Stt K F (e.set i .no) (σ.set i none) H ∧ OwnKeep e σ (e.set i .no) (σ.set i none) := by
  have ok : OwnKeep e σ (e.set i .no) (σ.set i none) := fun j l o h => by
    by_cases hj : i = j
    · subst hj
      by_cases hl : i < e.length
      · rw [List.getElem?_set_self hl] at h; cases h; cases o
      · rw [List.getElem?_eq_none (by simpa using hl)] at h; cases h
    · rw [List.getElem?_set_ne hj] at h
      exact ⟨h, by rw [List.getElem?_set_ne hj]⟩
  refine ⟨⟨st.sub, by simp [st.len], fun j s h => ?_, fun a b l l' p o1 o2 h1 h2 h3 h4 => ?_⟩, ok⟩
  · by_cases hj : i = j
    · subst hj
      by_cases hl : i < e.length
      · rw [List.getElem?_set_self hl] at h
        cases h
        trivial
      · rw [List.getElem?_eq_none (by simpa using hl)] at h; cases h
    · rw [List.getElem?_set_ne hj] at h
      rw [List.getElem?_set_ne hj]
      exact st.at_ j s h
  · obtain ⟨x1, y1⟩ := ok a l o1 h1
    obtain ⟨x2, y2⟩ := ok b l' o2 h2
    exact st.apart0 a b l l' p o1 o2 x1 x2 (y1 ▸ h3) (y2 ▸ h4)
theorem Stt.wipe {K : PySem.W.Frag} {F : Hp} {e : En} {σ : St} {H : Hp} (st : Stt K F e σ H) : ∀ vs : List Nat, Stt K F (wipeE e vs) (L2.wipe σ vs) H ∧ OwnKeep e σ (wipeE e vs) (L2.wipe σ vs)
  | [] => ⟨st, OwnKeep.refl _ _⟩
  | v :: vs => by
    obtain ⟨a, b⟩ := Stt.wipe st vs
    obtain ⟨c, d⟩ := Stt.unset (i := v) a
    exact ⟨c, b.trans d⟩
def lcL (G : CG) (T : CT) (E : CE) (e : En) : List D → Option (List D)
  | [] => some []
  | d :: l => match G d e with
    | none => none
    | some e1 => match T e1 with
      | .ok b => (match b with
        | true => (match E e1 with
          | .ok x => (match x.solid with
            | true => (match lcL G T E e l with
              | some r => some (x :: r)
              | none => none)
            | false => none)
          | _ => none)
        | false => lcL G T E e l)
      | _ => none
def nLc (A : CA) (vs : List Nat) (G : CG) (T : CT) (E : CE) : CA := fun e => (A e).bind fun l => match lcL G T E (wipeE e vs) l with
  | some r => (match Nat.ble l.length 1000000 with | true => .ok r | false => .bad)
  | none => .bad
def tYesC : CT := fun _ => .ok true
/-- a target that stores in given slots alone -/
def Within (G : CG) (vs : List Nat) : Prop := ∀ d e e', G d e = some e' → wipeE e' vs = wipeE e vs ∧ e'.length = e.length
def PPTs (X : Cx) (cl : Nat → Value) (W : WX) (ifs : List Expr) (T : CT) : Prop := PTs X ifs (tt X.K cl W T)
theorem PTs.imp {X : Cx} {e : List Expr} {t t' : TT} (h : PTs X e t) (i : ∀ σ H Q, t' σ H Q → t σ H Q) : PTs X e t' := ⟨fun pins s σ H Q I q => h.run pins s σ H Q I (i σ H Q q)⟩
theorem ppts_nil {X : Cx} {cl : Nat → Value} {W : WX} : PPTs X cl W [] tYesC := PTs.imp pts_nil fun σ H Q ⟨F, e, st, h⟩ => PostT.at h st.sub
theorem ppts_one {X : Cx} {cl : Nat → Value} {W : WX} {c : Expr} {T : CT} (h : PPT X cl W c T) : PPTs X cl W [c] T := pts_one h
/-- in a comprehension's block nothing is raised -/
abbrev W0 : WX := fun _ _ _ _ => False

/-- targets that store in given slots, on both sides -/
def PPGw (X : Cx) (vs : List Nat) (e : Expr) (G : CG) : Prop := PG X e (fun v σ H Q => ∃ F en d e', Stt X.K F en σ H ∧ RdG X.K F e d v ∧ G d en = some e' ∧ ∀ σ', Stt X.K F e' σ' H → OwnKeep en σ e' σ' → L2.wipe σ' vs = L2.wipe σ vs → Q σ' H)
theorem wipe_set (σ : St) {i : Nat} {x : Option V} : ∀ {vs : List Nat}, i ∈ vs → L2.wipe (σ.set i x) vs = L2.wipe σ vs := by
  intro vs
  induction vs with
  | nil => intro h; cases h
  | cons v vs ih =>
    intro h
    show (L2.wipe (σ.set i x) vs).set v none = (L2.wipe σ vs).set v none
    by_cases hm : i ∈ vs
    · rw [ih hm]
    · have hv : i = v := by
        rcases List.mem_cons.mp h with e | e
        · exact e
        · exact absurd e hm
      subst hv
      have gen : ∀ (vs : List Nat), i ∉ vs → L2.wipe (σ.set i x) vs = (L2.wipe σ vs).set i x := by
        intro vs
        induction vs with
        | nil => intro _; rfl
        | cons w ws ih2 =>
          intro hn
          simp only [List.mem_cons, not_or] at hn
          show (L2.wipe (σ.set i x) ws).set w none = ((L2.wipe σ ws).set w none).set i x
          rw [ih2 hn.2, List.set_comm _ _ hn.1]
      rw [gen vs hm, List.set_set]
theorem ppgw_name {X : Cx} {vs : List Nat} {i : Nat} {x : Str} {pos : Pos} (hN : X.N.Nodup) (hi : X.N[i]? = some x) (hx : Loc X.env.scope x) (hm : i ∈ vs) (hf : X.fn x = true ∨ X.env.scope.names.lookup x = some .local := by first | exact .inl rfl | exact .inr rfl | assumption) : PPGw X vs (.Name x pos) (gN i) :=
  PG.imp (pg_name hN hi hx hf) fun v σ H Q ⟨F, e, d, e', st, r, q, k⟩ => by
    cases q
    obtain ⟨a, b⟩ := st.set (i := i) r
    exact k _ a b (wipe_set σ hm)
theorem wipe_sub (σ : St) (vs : List Nat) : ∀ us : List Nat, (∀ u ∈ us, u ∈ vs) → L2.wipe (L2.wipe σ us) vs = L2.wipe σ vs
  | [], _ => rfl
  | u :: us, h => by
    show L2.wipe ((L2.wipe σ us).set u none) vs = _
    rw [wipe_set _ (h u List.mem_cons_self)]
    exact wipe_sub σ vs us fun w hw => h w (List.mem_cons_of_mem _ hw)
theorem wipe_wipe (σ : St) (vs : List Nat) : L2.wipe (L2.wipe σ vs) vs = L2.wipe σ vs := wipe_sub σ vs vs fun _ h => h
def PPGws (X : Cx) (vs : List Nat) (es : List Expr) (n : Nat) (Gs : CGs) : Prop := PGs X es (fun us σ H Q => ∃ F e l e', Stt X.K F e σ H ∧ RdL X.K F l us ∧ Gs l e = some e' ∧ ∀ σ', Stt X.K F e' σ' H → OwnKeep e σ e' σ' → L2.wipe σ' vs = L2.wipe σ vs → Q σ' H) ∧ ∀ l e e', Gs l e = some e' → l.length = n
theorem ppgws_nil {X : Cx} {vs : List Nat} : PPGws X vs [] 0 gsN := by
  refine ⟨PGs.imp pgs_nil fun us σ H Q ⟨F, e, l, e', st, r, q, k⟩ => ?_, fun l e e' h => ?_⟩
  · cases r with
    | nil => cases q; exact ⟨rfl, k _ st (OwnKeep.refl _ _) rfl⟩
    | cons _ _ => cases q
  · cases l with
    | nil => rfl
    | cons _ _ => cases h
theorem ppgws_cons {X : Cx} {vs : List Nat} {e : Expr} {es : List Expr} {G : CG} {Gs : CGs} {n : Nat} (h1 : PPGw X vs e G) (h2 : PPGws X vs es n Gs) (hs : (assignEach (e :: es) X.env).map (·.2) = assign e X.env :: (assignEach es X.env).map (·.2) := by rfl) : PPGws X vs (e :: es) (n + 1) (gsC G Gs) := by
  refine ⟨PGs.imp (pgs_cons h1 h2.1 hs) fun us σ H Q ⟨F, ev, l, e', st, r, q, k⟩ => ?_, fun l ev e' h => ?_⟩
  · cases r with
    | nil => cases q
    | @cons d l v us r rr =>
      simp only [gsC] at q
      cases z : G d ev with
      | none => rw [z] at q; cases q
      | some e1 =>
        rw [z] at q
        exact ⟨v, us, rfl, F, ev, d, e1, st, .of r, z, fun σ1 st1 k1 w1 => ⟨F, e1, l, e', st1, rr, q, fun σ2 st2 k2 w2 => k σ2 st2 (k1.trans k2) (w2.trans w1)⟩⟩
  · cases l with
    | nil => cases h
    | cons d r =>
      simp only [gsC] at h
      cases z : G d ev with
      | none => rw [z] at h; cases h
      | some e1 => rw [z] at h; rw [List.length_cons, h2.2 _ _ _ h]
theorem ppgw_tup {X : Cx} {vs : List Nat} {es : List Expr} {k : Nat} {pos : Pos} {Gs : CGs} {n : Nat} (hc : X.calm = true) (h : PPGws X vs es n Gs) (hn : (assignEach es X.env).length = n := by rfl) (hst : (assignEach es X.env).findIdx? (·.1) = none := by rfl) : PPGw X vs (.Tuple es k pos) (gT Gs) :=
  ⟨fun pins s σ H v u Q I rv ⟨F, e, d, e', st, r, q, kq⟩ => by
    have key : ∀ {l : List D} {vs : List V} {a : Addr}, v = .ref a → SqT X.K F a vs → RdL X.K F l vs → Gs l e = some e' → wpAny (model X.prog X.w) X.A (assign (.Tuple es k pos) X.env u) (fun _ s' => ∃ σ' H', Inv X pins σ' H' s' ∧ Q σ' H') X.xe s := fun ev hs rl q => by
      subst ev
      exact (pg_tup hc h.1 hn hst).run pins s σ H _ u Q I rv ⟨_, _, rfl, SqT.same st.sub hs, by rw [← rl.length]; exact h.2 _ e e' q, F, e, _, e', st, rl, q, kq⟩
    rcases r with r | ⟨l, vs, a, rfl, ev, hs, rl⟩
    · cases d with
      | tup l =>
        cases r with
        | tup h1 r1 => exact key rfl h1.sq r1 q
      | lst l =>
        cases r with
        | lst h1 r1 => exact (pg_lst hc h.1 hn hst).run pins s σ H _ u Q I rv ⟨_, _, rfl, .inl (.inl (st.sub _ _ h1)), by rw [← r1.length]; exact h.2 l e e' q, F, e, l, e', st, r1, q, kq⟩
      | _ => cases q
    · exact key ev hs rl q⟩

section
variable {X : Cx} {cl : Nat → Value} {W : WX} {elt tgt iter : Expr} {ifs : List Expr} {scope : Scope} {own : List (Str × Nat)} {pos : Pos} {A : CA} {G : CG} {T : CT} {E : CE}
/-- the state of the walk: what is frozen grows, the new list at D -/
structure LcI (K : PySem.W.Frag) (G : CG) (T : CT) (E : CE) (e : En) (l fin : List D) (F1 H1 : Hp) (D : Addr) (i m : Nat) (H : Hp) : Prop where
  le : m + i = l.length
  ex : ∃ F accd acc r, Same F1 F ∧ Same F H ∧ Same H1 H ∧ (∀ a o, F a = some o → F1 a = some o ∨ H1 a = none) ∧ F D = none ∧ H D = some (.lst acc) ∧ RdL K F accd acc ∧ lcL G T E e (l.drop i) = some r ∧ fin = accd ++ r ∧ acc.length ≤ i
theorem ppn_lc (hc : X.calm = true) (hN : X.N.Nodup) (hi : PPI X cl W tgt iter A) (ok : BlkOk X.N X.env.scope scope own)
    (hg : ∀ (s : Shared) (H : Hp) (C : Addr) (cl' : List (Str × Addr)) (fp : List Addr), PPGw (X.blk s H scope (compEnvC scope cl' C X.env) fp) (own.map (·.2)) tgt G)
    (ht : ∀ (s : Shared) (H : Hp) (C : Addr) (cl' : List (Str × Addr)) (fp : List Addr), PPTs (X.blk s H scope (compEnvC scope cl' C X.env) fp) cl W0 ifs T)
    (he : ∀ (s : Shared) (H : Hp) (C : Addr) (cl' : List (Str × Addr)) (fp : List Addr), PP (X.blk s H scope (compEnvC scope cl' C X.env) fp) cl W0 elt E) (hs : ∀ x, foldedSetIterable iter X.env x = pure x := by intro _; rfl) :
    PPN X cl W (.ListComp elt [⟨tgt, iter, ifs, 0⟩] scope pos) (nLc A (own.map (·.2)) G T E) := by
  refine PE.imp (pe_lc (g := fun v σ H Q => ∃ F en d e', Stt X.K F en σ H ∧ RdG X.K F tgt d v ∧ G d en = some e' ∧ ∀ σ', Stt X.K F e' σ' H → OwnKeep en σ e' σ' → L2.wipe σ' (own.map (·.2)) = L2.wipe σ (own.map (·.2)) → Q σ' H)
    (tt := tt X.K cl W0 T) (te := tp X.K cl W0 E) hc hN hi ok hg ht he hs) fun σ H Q ⟨F, e, st, h⟩ => ?_
  refine ⟨F, e, st, ?_⟩
  unfold nLc at h
  cases qA : A e with
  | exc c => rw [qA] at h; exact h
  | bad => rw [qA] at h; exact h
  | ok l =>
    rw [qA] at h
    simp only [Res.bind] at h
    cases qr : lcL G T E (wipeE e (own.map (·.2))) l with
    | none => rw [qr] at h; exact h.elim
    | some fin =>
      rw [qr] at h
      cases qz : Nat.ble l.length 1000000 with
      | false => simp only [qz] at h; exact h.elim
      | true =>
        simp only [qz] at h
        intro J F1 H1 x1 wk D nD
        have st1 := st.ext x1
        have hline := line_ok qz
        refine ⟨fun i m H => LcI X.K G T E (wipeE e (own.map (·.2))) l fin F1 H1 D i m H, ⟨l.length, ?_⟩, fun i m H2 w => ?_⟩
        · refine ⟨by omega, F1, [], [], fin, Same.refl _, ?_, ?_, fun a o q => .inl q, ?_, upd_same, .nil, by rw [List.drop_zero]; exact qr, rfl, Nat.le_refl _⟩
          · exact (Ext.add x1.sub nD (.lst [])).sub
          · exact (Ext.add x1.sub nD (.lst [])).h
          · exact x1.sub.free nD
        · obtain ⟨le, F2, accd, acc, r, s12, s2, hh, nw, fD, hD, rd, q, efin, hlen⟩ := w
          obtain ⟨w1, w2, w3⟩ := wk F2 H2 s12 s2
          by_cases hi : i < l.length
          · refine .inr ⟨w1 i hi, fun H' => LcI X.K G T E (wipeE e (own.map (·.2))) l fin F1 H1 D (i + 1) (m - 1) H', fun H' w => ⟨m - 1, by omega, w⟩, fun x H3 y => ?_⟩
            obtain ⟨d, F3, ed, x3, rx⟩ := w3 i x H3 hi y
            have el : l.drop i = d :: l.drop (i + 1) := by
              rw [List.drop_eq_getElem_cons hi]
              have : l[i] = d := by rw [List.getElem?_eq_getElem hi] at ed; exact Option.some.inj ed
              rw [this]
            rw [el] at q
            simp only [lcL] at q
            -- the state ahead of the turn
            have x13 : Ext F1 H1 F3 H3 := by
              refine ⟨s12.trans x3.f, hh.trans x3.h, x3.sub, fun a o z => ?_⟩
              rcases x3.new a o z with z | z
              · exact nw a o z
              · exact .inr (hh.free z)
            have nD3 : F3 D = none := by
              cases z : F3 D with
              | none => rfl
              | some o =>
                rcases x3.new D o z with z | z
                · rw [fD] at z; cases z
                · rw [hD] at z; cases z
            have hD3 := x3.h _ _ hD
            have st3 := st1.ext x13
            obtain ⟨st4, _⟩ := st3.wipe (own.map (·.2))
            split at q
            · cases q
            · rename_i e1 qG
              refine ⟨F3, _, d, e1, st4, rx, qG, fun σ' st5 ok5 hw => ⟨by rw [hw, wipe_wipe], F3, e1, st5, ?_⟩⟩
              split at q
              · rename_i b qT
                rw [qT]
                intro F4 H4 x4
                have x14 := x13.trans x4
                have nD4 : F4 D = none := by
                  cases z : F4 D with
                  | none => rfl
                  | some o =>
                    rcases x4.new D o z with z | z
                    · rw [nD3] at z; cases z
                    · rw [hD3] at z; cases z
                have hD4 := x4.h _ _ hD3
                split at q
                · refine iteT ⟨F4, e1, st5.ext x4, ?_⟩
                  split at q
                  · rename_i xv qE
                    rw [qE]
                    intro F5 H5 v x5 rv
                    have x15 := x14.trans x5
                    have nD5 : F5 D = none := by
                      cases z : F5 D with
                      | none => rfl
                      | some o =>
                        rcases x5.new D o z with z | z
                        · rw [nD4] at z; cases z
                        · rw [hD4] at z; cases z
                    have hD5 := x5.h _ _ hD4
                    split at q
                    · rename_i qS
                      split at q
                      · rename_i r' qr'
                        cases q
                        refine ⟨acc, hD5, by omega, ⟨by omega, F5, accd ++ [xv], acc ++ [v], r', x15.f, fun a o z => ?_, fun a o z => ?_, x15.new, nD5, upd_same, (rd.same ((x3.f.trans x4.f).trans x5.f)).append (.cons (rv.rd qS) .nil), qr', by rw [efin, List.append_assoc]; rfl, by simp; omega⟩⟩
                        · have hne : a ≠ D := fun c => by rw [c, nD5] at z; cases z
                          rw [upd_ne hne]; exact x15.sub _ _ z
                        · have hne : a ≠ D := fun c => by rw [c, nD] at z; cases z
                          rw [upd_ne hne]; exact x15.h _ _ z
                      · cases q
                    · cases q
                  · cases q
                · refine iteF ⟨by omega, F4, accd, acc, r, x14.f, x14.sub, x14.h, x14.new, nD4, hD4, rd.same (x3.f.trans x4.f), q, efin, by omega⟩
              · cases q
          · refine .inl ⟨w2 i (by omega), ?_⟩
            have el : l.drop i = [] := List.drop_eq_nil_of_le (by omega)
            rw [el] at q
            cases q
            rw [List.append_nil] at efin
            subst efin
            -- the heap without the new list
            have key : H2 = upd (fun b => if b = D then none else H2 b) D (.lst acc) := by
              funext b
              by_cases hb : b = D
              · subst hb; rw [upd_same, hD]
              · rw [upd_ne hb]; simp [hb]
            rw [key]
            refine h F2 _ D acc ⟨x1.f.trans s12, fun a o z => ?_, fun a o z => ?_, fun a o z => ?_⟩ (by simp) rd (by omega)
            · have hne : a ≠ D := fun c => by rw [c] at z; rw [x1.h _ _ z] at nD; cases nD
              simp only [hne, if_false]; exact hh _ _ (x1.h _ _ z)
            · have hne : a ≠ D := fun c => by rw [c, fD] at z; cases z
              simp only [hne, if_false]; exact s2 _ _ z
            · rcases nw a o z with z | z
              · exact x1.new a o z
              · exact .inr (x1.h.free z)
end
end M
namespace M
open PySem PySem.Spec PyProof.Rows L2

/-! ### statements -/
inductive RS where
  | nx (e : En) | rt (d : D) | bk (e : En) | ct (e : En) | exc (c : Nat) (e : En) | bad
abbrev CS := En → RS
/-- the state in a def's body, entered at F0, H0 -/
structure StS (K : PySem.W.Frag) (F0 H0 F : Hp) (e : En) (σ : St) (H : Hp) : Prop where
  st : Stt K F e σ H
  ext : Ext F0 H0 F H
  own0 : ∀ (i : Nat) (s : Sl) (a : Addr), s.isOwn = true → e[i]? = some s → σ[i]? = some (some (.ref a)) → H0 a = none
theorem StS.own {K : PySem.W.Frag} {F0 H0 F : Hp} {e : En} {σ : St} {H : Hp} (s : StS K F0 H0 F e σ H) (i : Nat) (l : List D) (a : Addr) : e[i]? = some (.own l) → σ[i]? = some (some (.ref a)) → H0 a = none := s.own0 i _ a rfl
section
variable (K : PySem.W.Frag) (cl : Nat → Value) (W : WX) (F0 H0 : Hp)
def PostS (Fc : Hp) (Dn : Ends) : RS → Prop
  | .nx e => ∀ F σ H, Same Fc F → StS K F0 H0 F e σ H → Dn.nx σ H
  | .rt d => ∀ F H v, Ext F0 H0 F H → Rd K F d v → Dn.rt v H
  | .bk e => ∀ F σ H, Same Fc F → StS K F0 H0 F e σ H → Dn.bk σ H
  | .ct e => ∀ F σ H, Same Fc F → StS K F0 H0 F e σ H → Dn.ct σ H
  | .exc c e => ∀ F σ H, Same Fc F → StS K F0 H0 F e σ H → W (cl c) none σ H
  | .bad => False
def ts (B : CS) : TS := fun Dn σ H => ∃ F e, StS K F0 H0 F e σ H ∧ PostS K cl W F0 H0 F Dn (B e)
theorem PostS.grow {Fc Fd : Hp} (s : Same Fc Fd) {Dn : Ends} : ∀ {r : RS}, PostS K cl W F0 H0 Fc Dn r → PostS K cl W F0 H0 Fd Dn r
  | .nx _, h => fun F σ H x => h F σ H (s.trans x)
  | .rt _, h => h
  | .bk _, h => fun F σ H x => h F σ H (s.trans x)
  | .ct _, h => fun F σ H x => h F σ H (s.trans x)
  | .exc _ _, h => fun F σ H x => h F σ H (s.trans x)
  | .bad, h => h
end
section
variable (X : Cx) (cl : Nat → Value) (W : WX) (F0 H0 : Hp)
def PPS (st : Stmt) (B : CS) : Prop := PS X st (ts X.K cl W F0 H0 B)
def PPSs (st : List Stmt) (B : CS) : Prop := PSs X st (ts X.K cl W F0 H0 B)
end
theorem PS.imp {X : Cx} {e : Stmt} {t t' : TS} (h : PS X e t) (i : ∀ D σ H, t' D σ H → t D σ H) : PS X e t' := ⟨fun pins s σ H D I q => h.run pins s σ H D I (i D σ H q)⟩
theorem PSs.imp {X : Cx} {e : List Stmt} {t t' : TS} (h : PSs X e t) (i : ∀ D σ H, t' D σ H → t D σ H) : PSs X e t' := ⟨fun pins s σ H D I q => h.run pins s σ H D I (i D σ H q)⟩
section
variable {K : PySem.W.Frag} {cl : Nat → Value} {W : WX} {F0 H0 F H F' H' : Hp} {e e' : En} {σ σ' : St}
theorem StS.grow (s : StS K F0 H0 F e σ H) (x : Ext F H F' H') : StS K F0 H0 F' e σ H' := ⟨s.st.ext x, s.ext.trans x, s.own0⟩
theorem StS.keep (s : StS K F0 H0 F e σ H) (st : Stt K F e' σ' H) (ok : OwnKeep e σ e' σ') : StS K F0 H0 F e' σ' H := ⟨st, s.ext, fun i l a o h1 h2 => by
    obtain ⟨x, y⟩ := ok i l o h1
    exact s.own0 i l a o x (y ▸ h2)⟩
/-- a slot that is one's own -/
theorem SlOk.at {o : Sl} {x : Option (Option V)} (ho : o.isOwn = true) (h : SlOk K F H x o) : ∃ a u, x = some (some (.ref a)) ∧ H a = some u ∧ F a = none := by
  cases o with
  | no => cases ho
  | dat d => cases ho
  | own l => obtain ⟨a, vs, h1, h2, h3, _⟩ := h; exact ⟨a, _, h1, h2, h3⟩
  | owd ks ws => obtain ⟨a, E, h1, h2, h3, _⟩ := h; exact ⟨a, _, h1, h2, h3⟩
/-- the refs of one's own slots stand in the heap -/
theorem StS.ne {p : Addr} (s : StS K F0 H0 F e σ H) (np : H p = none) (j : Nat) (o : Sl) (b : Addr) (ho : o.isOwn = true) (q1 : e[j]? = some o) (q2 : σ[j]? = some (some (.ref b))) : b ≠ p := fun c => by
  obtain ⟨b2, u, y1, y2, _⟩ := (s.st.at_ j _ q1).at ho
  rw [q2] at y1
  cases y1
  subst c
  rw [np] at y2; cases y2
theorem StS.nF {p : Addr} (s : StS K F0 H0 F e σ H) (np : H p = none) : F p = none ∧ H0 p = none := by
  refine ⟨?_, ?_⟩
  · cases q : F p with
    | none => rfl
    | some o => rw [s.st.sub _ _ q] at np; cases np
  · cases q : H0 p with
    | none => rfl
    | some o => rw [s.ext.h _ _ q] at np; cases np
/-- a thing that no slot holds is put into a slot -/
theorem StS.put {i : Nat} {o : Sl} {v : V} (s1 : StS K F0 H0 F e σ H) (hl : i < e.length) (ok : SlOk K F H (some (some v)) o) (n0 : o.isOwn = true → ∀ a, v = .ref a → H0 a = none)
    (ap : o.isOwn = true → ∀ (j : Nat) (t : Sl) (b : Addr), t.isOwn = true → i ≠ j → e[j]? = some t → σ[j]? = some (some (.ref b)) → v ≠ .ref b) : StS K F0 H0 F (e.set i o) (σ.set i (some v)) H := by
  have hlσ : i < σ.length := by rw [← s1.st.len]; exact hl
  refine ⟨⟨s1.st.sub, by simp [s1.st.len], fun j sl q => ?_, fun j k l1 l2 b o1 o2 q1 q2 q3 q4 => ?_⟩, s1.ext, fun j l1 b o1 q1 q2 => ?_⟩
  · by_cases hj : i = j
    · subst hj
      rw [List.getElem?_set_self hl] at q
      rw [List.getElem?_set_self hlσ]
      cases q
      exact ok
    · rw [List.getElem?_set_ne hj] at q ⊢
      exact s1.st.at_ j sl q
  · by_cases hj : i = j
    · by_cases hk : i = k
      · rw [← hj, ← hk]
      · subst hj
        rw [List.getElem?_set_self hl] at q1
        rw [List.getElem?_set_self hlσ] at q3
        rw [List.getElem?_set_ne hk] at q2 q4
        cases q1
        cases q3
        exact absurd rfl (ap o1 k l2 b o2 hk q2 q4)
    · rw [List.getElem?_set_ne hj] at q1 q3
      by_cases hk : i = k
      · subst hk
        rw [List.getElem?_set_self hl] at q2
        rw [List.getElem?_set_self hlσ] at q4
        cases q2
        cases q4
        exact absurd rfl (ap o2 j l1 b o1 hj q1 q3)
      · rw [List.getElem?_set_ne hk] at q2 q4
        exact s1.st.apart0 j k _ _ b o1 o2 q1 q2 q3 q4
  · by_cases hj : i = j
    · subst hj
      rw [List.getElem?_set_self hl] at q1
      rw [List.getElem?_set_self hlσ] at q2
      cases q1
      cases q2
      exact n0 o1 _ rfl
    · rw [List.getElem?_set_ne hj] at q1 q2
      exact s1.own0 j l1 b o1 q1 q2
/-- a new thing is put into a slot -/
theorem StS.putNew {i : Nat} {o : Sl} {p : Addr} {u : HO} (s : StS K F0 H0 F e σ H) (hl : i < e.length) (np : H p = none) (ok : SlOk K F (upd H p u) (some (some (.ref p))) o) :
    StS K F0 H0 F (e.set i o) (σ.set i (some (.ref p))) (upd H p u) :=
  (s.grow (Ext.add s.st.sub np u)).put hl ok (fun _ a h => by cases h; exact (s.nF np).2) fun _ j t b ho _ q1 q2 h => s.ne np j t b ho q1 q2 (by cases h; rfl)
theorem own_set {i : Nat} {p : Addr} {vs : List V} {l : List D} (s : StS K F0 H0 F e σ H) (hl : i < e.length) (np : H p = none) (r : RdL K F l vs) : StS K F0 H0 F (e.set i (.own l)) (σ.set i (some (.ref p))) (upd H p (.lst vs)) :=
  s.putNew hl np ⟨p, vs, rfl, upd_same, (s.nF np).1, r⟩
/-- an own thing changes -/
theorem StS.chg {i : Nat} {o o' : Sl} {a : Addr} {u : HO} (s : StS K F0 H0 F e σ H) (h : e[i]? = some o) (ho : o.isOwn = true) (ha : σ[i]? = some (some (.ref a))) (hn : F a = none) (ok : SlOk K F (upd H a u) (some (some (.ref a))) o') :
    StS K F0 H0 F (e.set i o') σ (upd H a u) := by
  have h0 := s.own0 i o a ho h ha
  have hl : i < e.length := (List.getElem?_eq_some_iff.mp h).1
  have sub : Same F (upd H a u) := fun b u z => by rw [upd_ne (ne_of_none z hn)]; exact s.st.sub _ _ z
  have un : ∀ {j : Nat} {t : Sl}, t.isOwn = true → (e.set i o')[j]? = some t → ∃ t2, t2.isOwn = true ∧ e[j]? = some t2 := fun {j t} o1 q => by
    by_cases hj : i = j
    · subst hj; exact ⟨o, ho, h⟩
    · rw [List.getElem?_set_ne hj] at q; exact ⟨t, o1, q⟩
  refine ⟨⟨sub, by simp [s.st.len], fun j sl q => ?_, fun j k l1 l2 p o1 o2 q1 q2 q3 q4 => ?_⟩, ⟨s.ext.f, fun b u z => ?_, sub, fun b o z => ?_⟩, fun j l1 b o1 q1 q2 => ?_⟩
  · by_cases hj : i = j
    · subst hj
      rw [List.getElem?_set_self hl] at q
      cases q
      rw [ha]
      exact ok
    · rw [List.getElem?_set_ne hj] at q
      have z := s.st.at_ j sl q
      have far : sl.isOwn = true → ∀ b, σ[j]? = some (some (.ref b)) → b ≠ a := fun o1 b z1 c => hj (s.st.apart0 i j o sl a ho o1 h q ha (c ▸ z1))
      cases sl with
      | no => trivial
      | dat d => exact z
      | own l2 =>
        obtain ⟨b, ws, z1, z2, z3, z4⟩ := z
        exact ⟨b, ws, z1, by rw [upd_ne (far rfl b z1)]; exact z2, z3, z4⟩
      | owd ks ws =>
        obtain ⟨b, E, z1, z2, z3, z4⟩ := z
        exact ⟨b, E, z1, by rw [upd_ne (far rfl b z1)]; exact z2, z3, z4⟩
  · obtain ⟨k1, y1, w1⟩ := un o1 q1
    obtain ⟨k2, y2, w2⟩ := un o2 q2
    exact s.st.apart0 j k k1 k2 p y1 y2 w1 w2 q3 q4
  · rw [upd_ne (ne_of_none z h0)]; exact s.ext.h _ _ z
  · exact s.ext.new b o z
  · obtain ⟨k1, y1, w1⟩ := un o1 q1
    exact s.own0 j k1 b y1 w1 q2
def rE (r : Res D) (e : En) (f : D → RS) : RS := match r with | .ok d => f d | .exc c => .exc c e | .bad => .bad
def rT (r : Res Bool) (e : En) (f : Bool → RS) : RS := match r with | .ok d => f d | .exc c => .exc c e | .bad => .bad
def rA (r : Res (List D)) (e : En) (f : List D → RS) : RS := match r with | .ok d => f d | .exc c => .exc c e | .bad => .bad
/-- an expression, then the rest -/
theorem goSE {A : CE} {R : VK} {Dn : Ends} {f : D → RS} (s : StS K F0 H0 F e σ H) (h : PostS K cl W F0 H0 F Dn (rE (A e) e f))
    (k : ∀ d F' H' v, Same F F' → StS K F0 H0 F' e σ H' → RdT K F' H' d v → PostS K cl W F0 H0 F' Dn (f d) → R v H') : tp K cl W A σ H R := by
  refine ⟨F, e, s.st, ?_⟩
  cases q : A e with
  | ok d => rw [q] at h; exact fun F' H' v x r => k d F' H' v x.f (s.grow x) r (PostS.grow (r := f d) _ _ _ _ _ x.f h)
  | exc c => rw [q] at h; exact fun F' H' x => h F' σ H' x.f (s.grow x)
  | bad => rw [q] at h; exact h
theorem goST {A : CT} {R : Bool → Hp → Prop} {Dn : Ends} {f : Bool → RS} (s : StS K F0 H0 F e σ H) (h : PostS K cl W F0 H0 F Dn (rT (A e) e f))
    (k : ∀ b F' H', Same F F' → StS K F0 H0 F' e σ H' → PostS K cl W F0 H0 F' Dn (f b) → R b H') : tt K cl W A σ H R := by
  refine ⟨F, e, s.st, ?_⟩
  cases q : A e with
  | ok d => rw [q] at h; exact fun F' H' x => k d F' H' x.f (s.grow x) (PostS.grow (r := f d) _ _ _ _ _ x.f h)
  | exc c => rw [q] at h; exact fun F' H' x => h F' σ H' x.f (s.grow x)
  | bad => rw [q] at h; exact h
theorem goSA {A : CA} {R : List V → Hp → Prop} {Dn : Ends} {f : List D → RS} (s : StS K F0 H0 F e σ H) (h : PostS K cl W F0 H0 F Dn (rA (A e) e f))
    (k : ∀ l F' H' vs, Same F F' → StS K F0 H0 F' e σ H' → RdL K F' l vs → PostS K cl W F0 H0 F' Dn (f l) → R vs H') : ta K cl W A σ H R := by
  refine ⟨F, e, s.st, ?_⟩
  cases q : A e with
  | ok d => rw [q] at h; exact fun F' H' vs x r => k d F' H' vs x.f (s.grow x) r (PostS.grow (r := f d) _ _ _ _ _ x.f h)
  | exc c => rw [q] at h; exact fun F' H' x => h F' σ H' x.f (s.grow x)
  | bad => rw [q] at h; exact h
theorem goSN {A : CA} {R : VK} {Dn : Ends} {f : List D → RS} (s : StS K F0 H0 F e σ H) (h : PostS K cl W F0 H0 F Dn (rA (A e) e f))
    (k : ∀ l F' H' p vs, Same F F' → StS K F0 H0 F' e σ H' → H' p = none → RdL K F' l vs → vs.length ≤ sizeLine → PostS K cl W F0 H0 F' Dn (f l) → R (.ref p) (upd H' p (.lst vs))) : tn K cl W A σ H R := by
  refine ⟨F, e, s.st, ?_⟩
  cases q : A e with
  | ok d => rw [q] at h; exact fun F' H' p vs x np r z => k d F' H' p vs x.f (s.grow x) np r z (PostS.grow (r := f d) _ _ _ _ _ x.f h)
  | exc c => rw [q] at h; exact fun F' H' x => h F' σ H' x.f (s.grow x)
  | bad => rw [q] at h; exact h
end
def sNx : CS := fun e => .nx e
def sSeq (B C : CS) : CS := fun e => match B e with
  | .nx e1 => C e1
  | r => r
def sSet (i : Nat) (A : CE) : CS := fun e => rE (A e) e fun d => match d.solid with | true => .nx (e.set i (.dat d)) | false => .bad
def sSetN (i : Nat) (A : CA) : CS := fun e => rA (A e) e fun l => .nx (e.set i (.own l))
def sAsg (G : CG) (A : CE) : CS := fun e => rE (A e) e fun d => match d.solid with | true => (match G d e with | some e1 => .nx e1 | none => .bad) | false => .bad
def sPar (i j : Nat) (A : CA) : CS := fun e => rA (A e) e fun l => match l with
  | [x, y] => .nx ((e.set i (.dat x)).set j (.dat y))
  | _ => .bad
def sRet (A : CE) : CS := fun e => rE (A e) e fun d => match d.solid with | true => .rt d | false => .bad
def sRetN : CS := fun _ => .rt .non
def sIf (T : CT) (B C : CS) : CS := fun e => rT (T e) e fun b => match b with | true => B e | false => C e
def sDrop (A : CE) : CS := fun e => rE (A e) e fun _ => .nx e
def forL (G : CG) (B : CS) : List D → CS
  | [], e => .nx e
  | d :: l, e => match G d e with
    | none => .bad
    | some e1 => match B e1 with
      | .nx e2 => forL G B l e2
      | .ct e2 => forL G B l e2
      | .bk e2 => .nx e2
      | r => r
def sFor (A : CA) (G : CG) (B : CS) : CS := fun e => rA (A e) e fun l => forL G B l e
def sWhl (T : CT) (B : CS) : Nat → CS
  | 0, _ => .bad
  | n + 1, e => rT (T e) e fun b => match b with
    | true => (match B e with
      | .nx e2 => sWhl T B n e2
      | .ct e2 => sWhl T B n e2
      | .bk e2 => .nx e2
      | r => r)
    | false => .nx e
def sRaise (c : Nat) : CS := fun e => .exc c e
def sFz (i : Nat) (B : CS) : CS := fun e => match e[i]? with
  | some (.own l) => B (e.set i (.dat (.lst l)))
  | some (.owd ks ws) => B (e.set i (.dat (.dct ks ws)))
  | _ => B e
section
variable {X : Cx} {cl : Nat → Value} {W : WX} {F0 H0 : Hp} {st : Stmt} {rest sts els : List Stmt} {B C : CS} {a : Expr} {A : CE} {L : CA} {T : CT} {pos : Pos}
theorem ppss_nil : PPSs X cl W F0 H0 [] sNx := PSs.imp pss_nil fun D σ H ⟨F, e, s, h⟩ => h F σ H (Same.refl _) s
theorem ppss_cons (h1 : PPS X cl W F0 H0 st B) (h2 : PPSs X cl W F0 H0 rest C) : PPSs X cl W F0 H0 (st :: rest) (sSeq B C) := PSs.imp (pss_cons h1 h2) fun Dn σ H ⟨F, e, s, h⟩ => by
  refine ⟨F, e, s, ?_⟩
  unfold sSeq at h
  cases q : B e with
  | nx e1 => rw [q] at h; exact fun F' σ' H' x s' => ⟨F', e1, s', PostS.grow (r := C e1) _ _ _ _ _ x h⟩
  | rt d => rw [q] at h; exact h
  | bk e1 => rw [q] at h; exact h
  | ct e1 => rw [q] at h; exact h
  | exc c e1 => rw [q] at h; exact h
  | bad => rw [q] at h; exact h
theorem ppss_one (h1 : PPS X cl W F0 H0 st B) : PPSs X cl W F0 H0 [st] B := pss_one h1
theorem pps_pass : PPS X cl W F0 H0 (.Pass pos) sNx := PS.imp ps_pass fun D σ H ⟨F, e, s, h⟩ => h F σ H (Same.refl _) s
theorem pps_set {i : Nat} {x : Str} {pos' : Pos} (hN : X.N.Nodup) (hi : X.N[i]? = some x) (hx : Loc X.env.scope x) (ha : PP X cl W a A) (hs : swapsWith a (some (.Name x pos')) pos.line X.env = pure false := by rfl) (hf : X.fn x = true ∨ X.env.scope.names.lookup x = some .local := by first | exact .inl rfl | exact .inr rfl | assumption) :
    PPS X cl W F0 H0 (.Assign [.Name x pos'] a pos) (sSet i A) := PS.imp (ps_set hN hi hx ha hs hf) fun Dn σ H ⟨F, e, s, h⟩ => goSE s h fun d F1 H1 v x1 s1 r1 h1 => by
  cases q : d.solid with
  | false => rw [q] at h1; exact h1.elim
  | true =>
    rw [q] at h1
    obtain ⟨a, b⟩ := s1.st.set (i := i) (r1.rd q)
    exact h1 _ _ _ (Same.refl _) (s1.keep a b)
theorem pps_asg {tg : Expr} {G : CG} (ha : PP X cl W a A) (hg : PPG X tg G) (hs : swapsWithSole [tg] a pos.line X.env = pure false := by rfl) (hw : swappedStores [tg] a X.env = pure none := by rfl)
    (h1 : (assignEach [tg] X.env).map (·.2) = [assign tg X.env] := by rfl) : PPS X cl W F0 H0 (.Assign [tg] a pos) (sAsg G A) := PS.imp (ps_asg ha hg hs hw h1) fun Dn σ H ⟨F, e, s, h⟩ => goSE s h fun d F1 H1 v x1 s1 r1 h1 => by
  cases q : d.solid with
  | false => rw [q] at h1; exact h1.elim
  | true =>
    rw [q] at h1
    cases z : G d e with
    | none => rw [z] at h1; exact h1.elim
    | some e1 =>
      rw [z] at h1
      exact ⟨F1, e, d, e1, s1.st, .of (r1.rd q), z, fun σ' st' ok => h1 _ _ _ (Same.refl _) (s1.keep st' ok)⟩
theorem pps_par {i j : Nat} {x y : Str} {a b : Expr} {px py pt : Pos} {kt k2 pt2} (hc : X.calm = true) (hN : X.N.Nodup) (hi : X.N[i]? = some x) (hj : X.N[j]? = some y) (hij : i ≠ j)
    (hx : X.env.scope.names.lookup x = some .local) (hy : X.env.scope.names.lookup y = some .local) (ha : PPA X cl W [a, b] L)
    (hw : swappedStores [.Tuple [.Name x px, .Name y py] kt pt] (.Tuple [a, b] k2 pt2) X.env = pure (some [x, y]))
    (hs : swapsWithSole [.Tuple [.Name x px, .Name y py] kt pt] (.Tuple [a, b] k2 pt2) pos.line X.env = pure false := by rfl) :
    PPS X cl W F0 H0 (.Assign [.Tuple [.Name x px, .Name y py] kt pt] (.Tuple [a, b] k2 pt2) pos) (sPar i j L) := PS.imp (ps_par hc hN hi hj hij hx hy ha hw hs) fun Dn σ H ⟨F, e, s, h⟩ => goSA s h fun l F1 H1 vs x1 s1 r1 h1 => by
  split at h1
  · cases r1 with
    | cons r1 r2 =>
      cases r2 with
      | cons r2 r3 =>
        cases r3
        obtain ⟨a1, b1⟩ := s1.st.set (i := i) r1
        obtain ⟨a2, b2⟩ := a1.set (i := j) r2
        exact ⟨_, _, rfl, h1 _ _ _ (Same.refl _) (s1.keep a2 (b1.trans b2))⟩
  · exact h1.elim
theorem pps_ret (ha : PP X cl W a A) : PPS X cl W F0 H0 (.Return (some a) pos) (sRet A) := PS.imp (ps_ret ha) fun Dn σ H ⟨F, e, s, h⟩ => goSE s h fun d F1 H1 v x1 s1 r1 h1 => by
  cases q : d.solid with
  | false => rw [q] at h1; exact h1.elim
  | true => rw [q] at h1; exact h1 _ _ _ s1.ext (r1.rd q)
theorem pps_retN : PPS X cl W F0 H0 (.Return none pos) sRetN := PS.imp ps_retN fun Dn σ H ⟨F, e, s, h⟩ => h F H _ s.ext .non
theorem pps_if {c : Expr} {a b : List Stmt} (hc : PPT X cl W c T) (ha : PPSs X cl W F0 H0 a B) (hb : PPSs X cl W F0 H0 b C) : PPS X cl W F0 H0 (.If c a b pos) (sIf T B C) := PS.imp (ps_if hc ha hb) fun Dn σ H ⟨F, e, s, h⟩ => goST s h fun b F1 H1 x1 s1 h1 => by
  cases b with
  | true => exact iteT ⟨F1, e, s1, h1⟩
  | false => exact iteF ⟨F1, e, s1, h1⟩
theorem pps_break : PPS X cl W F0 H0 (.Break pos) (fun e => .bk e) := PS.imp ps_break fun Dn σ H ⟨F, e, s, h⟩ => h F σ H (Same.refl _) s
theorem pps_cont : PPS X cl W F0 H0 (.Continue pos) (fun e => .ct e) := PS.imp ps_continue fun Dn σ H ⟨F, e, s, h⟩ => h F σ H (Same.refl _) s
/-- a loop's turn ends so -/
def loopEnd (r : RS) (k : En → RS) : RS := match r with
  | .nx e2 => k e2
  | .ct e2 => k e2
  | .bk e2 => .nx e2
  | r => r
theorem forL_cons (G : CG) (B : CS) (d : D) (l : List D) (e : En) : forL G B (d :: l) e = (match G d e with | none => .bad | some e1 => loopEnd (B e1) (forL G B l)) := by
  show (match G d e with | none => RS.bad | some e1 => _) = _
  cases G d e with
  | none => rfl
  | some e1 => unfold loopEnd; cases B e1 <;> rfl
theorem PostS.turn {K : PySem.W.Frag} {cl : Nat → Value} {W : WX} {F0 H0 F : Hp} {Dn : Ends} {r : RS} {k : En → RS} {N : St → Hp → Prop} (h : PostS K cl W F0 H0 F Dn (loopEnd r k))
    (hN : ∀ e' F' σ' H', Same F F' → StS K F0 H0 F' e' σ' H' → PostS K cl W F0 H0 F' Dn (k e') → N σ' H') : PostS K cl W F0 H0 F { Dn with nx := N, ct := N, bk := Dn.nx } r := by
  cases r with
  | nx e' => exact fun F' σ' H' x s => hN e' F' σ' H' x s (PostS.grow (r := k e') _ _ _ _ _ x h)
  | ct e' => exact fun F' σ' H' x s => hN e' F' σ' H' x s (PostS.grow (r := k e') _ _ _ _ _ x h)
  | bk e' => exact h
  | rt d => exact h
  | exc c e' => exact h
  | bad => exact h
theorem pps_for {tg iter : Expr} {body : List Stmt} {G : CG} (hp : PassesOwn (model X.prog X.w) X.A X.env X.xe) (hc : X.calm = true) (hi : PPI X cl W tg iter L) (hg : PPG X tg G) (hb : PPSs X cl W F0 H0 body B)
    (hs : ∀ x, foldedSetIterable iter X.env x = pure x := by intro _; rfl) : PPS X cl W F0 H0 (.For tg iter body [] pos) (sFor L G B) := PS.imp (ps_for hp hc hi hg hb hs) fun Dn σ H ⟨F, e, s, h⟩ => by
  refine ⟨F, e, s.st, ?_⟩
  unfold sFor rA at h
  cases q : L e with
  | exc c => rw [q] at h; exact fun F' H' x => h F' σ H' x.f (s.grow x)
  | bad => rw [q] at h; exact h
  | ok l =>
    rw [q] at h
    intro J F1 H1 x1 wk
    refine ⟨fun i m σ H => m + i = l.length ∧ ∃ F e, Same F1 F ∧ StS X.K F0 H0 F e σ H ∧ PostS X.K cl W F0 H0 F Dn (forL G B (l.drop i) e), ⟨l.length, by omega, F1, e, Same.refl _, s.grow x1, by rw [List.drop_zero]; exact PostS.grow (r := forL G B l e) _ _ _ _ _ x1.f h⟩, fun i m σ H2 w => ?_⟩
    obtain ⟨le, F2, e2, s12, s2, h2⟩ := w
    obtain ⟨w1, w2, w3⟩ := wk F2 H2 s12 s2.ext.sub
    by_cases hi : i < l.length
    · refine .inr ⟨w1 i hi, fun σ' H' => m - 1 + (i + 1) = l.length ∧ ∃ F e, Same F1 F ∧ StS X.K F0 H0 F e σ' H' ∧ PostS X.K cl W F0 H0 F Dn (forL G B (l.drop (i + 1)) e), fun σ' H' w => ⟨m - 1, by omega, w⟩, fun x H3 y => ?_⟩
      obtain ⟨d, F3, ed, x3, rx⟩ := w3 i x H3 hi y
      have el : l.drop i = d :: l.drop (i + 1) := by
        rw [List.drop_eq_getElem_cons hi]
        have : l[i] = d := by rw [List.getElem?_eq_getElem hi] at ed; exact Option.some.inj ed
        rw [this]
      rw [el, forL_cons] at h2
      have s3 := s2.grow x3
      cases qG : G d e2 with
      | none => rw [qG] at h2; exact h2.elim
      | some e3 =>
        rw [qG] at h2
        refine ⟨F3, e2, d, e3, s3.st, rx, qG, fun σ' st' ok => ⟨F3, e3, s3.keep st' ok, ?_⟩⟩
        exact PostS.turn (PostS.grow _ _ _ _ _ x3.f h2) fun e' F' σ' H' x s' h' => ⟨by omega, F', e', (s12.trans x3.f).trans x, s', h'⟩
    · refine .inl ⟨w2 i (by omega), ?_⟩
      have el : l.drop i = [] := List.drop_eq_nil_of_le (by omega)
      rw [el] at h2
      exact h2 _ _ _ (Same.refl _) s2
theorem sWhl_succ (T : CT) (B : CS) (n : Nat) (e : En) : sWhl T B (n + 1) e = rT (T e) e fun b => match b with | true => loopEnd (B e) (sWhl T B n) | false => .nx e := by
  show rT (T e) e _ = _
  congr 1
theorem pps_while {c : Expr} {body : List Stmt} (n : Nat) (hp : PassesOwn (model X.prog X.w) X.A X.env X.xe) (hc : PPT X cl W c T) (hb : PPSs X cl W F0 H0 body B) : PPS X cl W F0 H0 (.While c body [] pos) (sWhl T B n) := PS.imp (ps_while hp hc hb) fun Dn σ H ⟨F, e, s, h⟩ => by
  refine ⟨fun m σ H => ∃ F e, StS X.K F0 H0 F e σ H ∧ PostS X.K cl W F0 H0 F Dn (sWhl T B m e), ⟨n, F, e, s, h⟩, fun m σ H w => ?_⟩
  obtain ⟨F, e, s, h⟩ := w
  cases m with
  | zero => exact h.elim
  | succ m =>
    rw [sWhl_succ] at h
    refine goST s h fun b F1 H1 x1 s1 h1 => ?_
    cases b with
    | true =>
      refine iteT ⟨fun σ' H' => ∃ F e, StS X.K F0 H0 F e σ' H' ∧ PostS X.K cl W F0 H0 F Dn (sWhl T B m e), fun σ' H' w => ⟨m, Nat.lt_succ_self _, w⟩, F1, e, s1, ?_⟩
      exact PostS.turn h1 fun e' F' σ' H' x s' h' => ⟨F', e', s', h'⟩
    | false => exact iteF (h1 _ _ _ (Same.refl _) s1)
theorem pps_raise {c : Nat} (hc : X.calm = true) (tk : Takes X W) (he : PMk X a (fun _ H Q => Q (cl c) none H)) : PPS X cl W F0 H0 (.Raise (some a) none pos) (sRaise c) := PS.imp (ps_raise hc tk he) fun Dn σ H ⟨F, e, s, h⟩ => h F σ H (Same.refl _) s
/-- raise X(), X an own class without __init__ -/
theorem pmk_own0 {x : Str} {C : Addr} {p : Pos} {bmB : List Value} {Bn newId initId : String} (Fc : ExcBaseFacts Bn newId initId bmB) (q : PySem.W.excIn X.K C bmB newId = true) (gC : X.mg x = some (.ref C)) (kC : PySem.W.keepIn X.K (.ref C) = true) (r : Raises X (.ref C)) (hg : Gl X x)
    (hdb : (x == ("__debug__" : Str)) = false := by decide) : PMk X (.Call (.Name x p) [] [] pos) (fun _ H Q => Q (.ref C) none H) := by
  intro pins s σ H Q I h
  refine wpAny_Call_Name_kw (ld_glob I hg gC ?_ hdb)
  refine PySem.W.callWith_K0 I.kIn kC ?_
  show wpAny _ _ (call (.ref C) []) _ _ _
  obtain ⟨bm, N, nm, qn, bs, hdct, sn, sub, ab, col, dd, k0, k1, k2, k3, k5, mN, hC, hN, hni, T⟩ := exc_obj I.kIn q
  refine wpAny_call_exc_subT Fc T hC hN hni (fun h' e hm => ?_) (by show 0 ≤ sizeLine; exact Nat.zero_le _)
  exact mk_of I hm r h (I.hok.gone hm.new)
/-- what an own slot holds becomes data -/
def frD : Sl → Sl
  | .own l => .dat (.lst l)
  | .owd ks ws => .dat (.dct ks ws)
  | s => s
theorem Stt.freeze {K : PySem.W.Frag} {F : Hp} {e : En} {σ : St} {H : Hp} {i : Nat} {o : Sl} (st : Stt K F e σ H) (h : e[i]? = some o) (ho : o.isOwn = true) : ∃ a u, σ[i]? = some (some (.ref a)) ∧ H a = some u ∧ F a = none ∧ Stt K (upd F a u) (e.set i (frD o)) σ H := by
  have hl : i < e.length := (List.getElem?_eq_some_iff.mp h).1
  have z0 := st.at_ i _ h
  have key : ∃ a u, σ[i]? = some (some (.ref a)) ∧ H a = some u ∧ F a = none ∧ ∀ F', Same F F' → F' a = some u → SlOk K F' H σ[i]? (frD o) := by
    cases o with
    | no => cases ho
    | dat d => cases ho
    | own l => obtain ⟨a, vs, h1, h2, h3, h4⟩ := z0; exact ⟨a, _, h1, h2, h3, fun F' sF q => ⟨_, h1, .lst q (h4.same sF)⟩⟩
    | owd ks ws => obtain ⟨a, E, h1, h2, h3, h4⟩ := z0; exact ⟨a, _, h1, h2, h3, fun F' sF q => ⟨_, h1, .dct q (h4.same sF)⟩⟩
  have fo : (frD o).isOwn = false := by cases o <;> first | rfl | cases ho
  obtain ⟨a, u, h1, h2, h3, h4⟩ := key
  have sF : Same F (upd F a u) := fun b u z => by rw [upd_ne (ne_of_none z h3)]; exact z
  refine ⟨a, u, h1, h2, h3, ⟨fun b u z => ?_, by simp [st.len], fun j s q => ?_, fun j k l1 l2 p o1 o2 q1 q2 q3 q4 => ?_⟩⟩
  · by_cases hb : b = a
    · subst hb; rw [upd_same] at z; cases z; exact h2
    · rw [upd_ne hb] at z; exact st.sub _ _ z
  · by_cases hj : i = j
    · subst hj
      rw [List.getElem?_set_self hl] at q
      cases q
      exact h4 _ sF upd_same
    · rw [List.getElem?_set_ne hj] at q
      have z := st.at_ j s q
      have far : s.isOwn = true → ∀ b, σ[j]? = some (some (.ref b)) → b ≠ a := fun o1 b z1 c => hj (st.apart0 i j o s a ho o1 h q h1 (c ▸ z1))
      cases s with
      | no => trivial
      | dat d => obtain ⟨v, z1, z2⟩ := z; exact ⟨v, z1, z2.same sF⟩
      | own l' =>
        obtain ⟨b, ws, z1, z2, z3, z4⟩ := z
        exact ⟨b, ws, z1, z2, by rw [upd_ne (far rfl b z1)]; exact z3, z4.same sF⟩
      | owd ks ws' =>
        obtain ⟨b, ws, z1, z2, z3, z4⟩ := z
        exact ⟨b, ws, z1, z2, by rw [upd_ne (far rfl b z1)]; exact z3, z4.same sF⟩
  · have un : ∀ {j : Nat} {l1 : Sl}, l1.isOwn = true → (e.set i (frD o))[j]? = some l1 → e[j]? = some l1 := fun {j l1} o1 q => by
      by_cases hj : i = j
      · subst hj
        rw [List.getElem?_set_self hl] at q
        cases q
        rw [fo] at o1; cases o1
      · rw [List.getElem?_set_ne hj] at q; exact q
    exact st.apart0 j k l1 l2 p o1 o2 (un o1 q1) (un o2 q2) q3 q4
theorem fz_own {e : En} {i : Nat} {o : Sl} {j : Nat} {l1 : Sl} (o1 : l1.isOwn = true) (fo : o.isOwn = false) (q : (e.set i o)[j]? = some l1) : e[j]? = some l1 := by
  by_cases hj : i = j
  · subst hj
    by_cases hl : i < e.length
    · rw [List.getElem?_set_self hl] at q; cases q; rw [fo] at o1; cases o1
    · rw [List.getElem?_eq_none (by simpa using hl)] at q; cases q
  · rw [List.getElem?_set_ne hj] at q; exact q
theorem StS.fz {K : PySem.W.Frag} {F0 H0 F H : Hp} {e : En} {σ : St} {i : Nat} {o : Sl} (s : StS K F0 H0 F e σ H) (q : e[i]? = some o) (ho : o.isOwn = true) : ∃ F', Same F F' ∧ StS K F0 H0 F' (e.set i (frD o)) σ H := by
  obtain ⟨a, u, h1, h2, h3, st'⟩ := s.st.freeze q ho
  have sF : Same F (upd F a u) := fun b u z => by rw [upd_ne (ne_of_none z h3)]; exact z
  have hn := s.own0 i o a ho q h1
  have fo : (frD o).isOwn = false := by cases o <;> first | rfl | cases ho
  refine ⟨_, sF, ⟨st', ⟨s.ext.f.trans sF, s.ext.h, st'.sub, fun b o z => ?_⟩, fun j l' b o1 z1 z2 => s.own0 j l' b o1 (fz_own o1 fo z1) z2⟩⟩
  by_cases hb : b = a
  · subst hb; exact .inr hn
  · rw [upd_ne hb] at z; exact s.ext.new b o z
theorem ppss_fz (i : Nat) (h1 : PPSs X cl W F0 H0 sts B) : PPSs X cl W F0 H0 sts (sFz i B) := PSs.imp h1 fun Dn σ H ⟨F, e, s, h⟩ => by
  unfold sFz at h
  cases q : e[i]? with
  | none => rw [q] at h; exact ⟨F, e, s, h⟩
  | some sl =>
    rw [q] at h
    cases sl with
    | no => exact ⟨F, e, s, h⟩
    | dat d => exact ⟨F, e, s, h⟩
    | own l =>
      obtain ⟨F', sF, s'⟩ := s.fz q rfl
      exact ⟨F', _, s', PostS.grow (r := B _) _ _ _ _ _ sF h⟩
    | owd ks ws =>
      obtain ⟨F', sF, s'⟩ := s.fz q rfl
      exact ⟨F', _, s', PostS.grow (r := B _) _ _ _ _ _ sF h⟩
end
end M
namespace M
open PySem PySem.Spec PyProof.Rows L2

/-! ### defs -/
def datL : List D → En
  | [] => []
  | d :: l => .dat d :: datL l
def noL : Nat → En
  | 0 => []
  | n + 1 => .no :: noL n
def endD (r : RS) : Res D := match r with
  | .rt d => (match d.solid with | true => .ok d | false => .bad)
  | .nx _ => .ok .non
  | .exc c _ => .exc c
  | _ => .bad
def cDef (n k : Nat) (B : CS) (ds : List D) : Res D := match Nat.beq ds.length n with
  | true => endD (B (datL ds ++ noL k))
  | false => .bad
theorem solid_def (n k : Nat) (B : CS) : Solid (cDef n k B) := fun l d h => by
  unfold cDef at h
  split at h
  · unfold endD at h
    split at h
    · rename_i d' q
      cases z : d'.solid with
      | true => rw [z] at h; cases h; exact z
      | false => rw [z] at h; cases h
    · cases h; rfl
    · cases h
    · cases h
  · cases h
theorem solid_bad : Solid (fun _ => .bad) := fun _ _ h => nomatch h
theorem datL_len : ∀ l : List D, (datL l).length = l.length
  | [] => rfl
  | _ :: l => congrArg (· + 1) (datL_len l)
theorem noL_len : ∀ n : Nat, (noL n).length = n
  | 0 => rfl
  | n + 1 => congrArg (· + 1) (noL_len n)
theorem noL_get : ∀ (n i : Nat) (s : Sl), (noL n)[i]? = some s → s = .no
  | 0, _, _, h => by simp [noL] at h
  | n + 1, 0, s, h => by simp [noL] at h; exact h.symm
  | n + 1, i + 1, s, h => noL_get n i s (by simpa [noL] using h)
theorem datL_get : ∀ (l : List D) (i : Nat) (s : Sl), (datL l)[i]? = some s → ∃ d, l[i]? = some d ∧ s = .dat d
  | [], _, _, h => by simp [datL] at h
  | d :: l, 0, s, h => by simp [datL] at h; exact ⟨d, by simp, h.symm⟩
  | d :: l, i + 1, s, h => by
    obtain ⟨d', a, b⟩ := datL_get l i s (by simpa [datL] using h)
    exact ⟨d', by simpa using a, b⟩
theorem start_ok {K : PySem.W.Frag} {F H : Hp} {N : List Str} {ds : List D} {vs : List V} {k : Nat} (sm : Same F H) (r : RdL K F ds vs) (hk : ds.length + k = N.length) : StS K F H F (datL ds ++ noL k) (L2.start N vs) H := by
  have hl := r.length
  have own0 : ∀ (i : Nat) (t : Sl), t.isOwn = true → (datL ds ++ noL k)[i]? = some t → False := fun i l o1 h => by
    by_cases hi : i < (datL ds).length
    · rw [List.getElem?_append_left hi] at h
      obtain ⟨d, _, e⟩ := datL_get _ _ _ h
      cases e; cases o1
    · rw [List.getElem?_append_right (by omega)] at h
      cases noL_get _ _ _ h; cases o1
  refine ⟨⟨sm, ?_, fun i s h => ?_, fun i j l l' a o1 _ h1 _ _ _ => (own0 i l o1 h1).elim⟩, Ext.refl sm, fun i l a o1 h1 _ => (own0 i l o1 h1).elim⟩
  · unfold L2.start
    simp [datL_len, noL_len, hl]
    omega
  · by_cases hi : i < (datL ds).length
    · rw [List.getElem?_append_left hi] at h
      obtain ⟨d, e, rfl⟩ := datL_get _ _ _ h
      obtain ⟨v, e2, rv⟩ := r.get e
      refine ⟨v, ?_, rv⟩
      unfold L2.start
      rw [datL_len] at hi
      rw [List.getElem?_append_left (by simp; omega), List.getElem?_map, e2]
      rfl
    · rw [List.getElem?_append_right (by omega)] at h
      cases noL_get _ _ _ h
      trivial
section
variable {P : Program} {w : World} {K : PySem.W.Frag} {mg : Str → Option Value} {base : Heap} {cl : Nat → Value}
/-- the context of a def's body -/
abbrev bodyX (P : Program) (w : World) (K : PySem.W.Frag) (mg : Str → Option Value) (base : Heap) (N : List Str) (x : Str) (st : Stmt) (f : Addr) (cdv : Value) (A : Around) (outer : List PySem.Env) (s : Shared) (H : Hp) (E : XK) : Cx := cxOf (L2.CX P w) P w K mg base N x (defScope st) f cdv A outer s H E
abbrev WD (E : XK) : WX := fun cls d _ H => E cls d H
theorem fm_def {st : Stmt} {x : Str} {N ps : List Str} {k : Nat} {n j : Nat} {B : CS} {f : Addr} {fd : FuncData} (F : Fun K x x st f fd) (S : FnScope N ps (defScope st)) (hm : mg x = some (.ref f)) (hb : Binds K fd ps []) (hn : ps.length = n) (hN : N.length = n + j)
    (body : ∀ (cdv : Value) (A : Around) (outer : List PySem.Env) (s : Shared) (H : Hp) (E : XK) (Fz : Hp), Room k (bodyX P w K mg base N x st f cdv A outer s H E).A → PPSs (bodyX P w K mg base N x st f cdv A outer s H E) cl (WD E) Fz H (defBody st) B) :
    Fm P w K mg base cl (k + 1) x st ps (cDef n j B) := by
  have hlen : ∀ vs H Q E, spP K cl (cDef n j B) vs H Q E → vs.length = ps.length := fun vs H Q E ⟨Fz, ds, sm, r, q⟩ => by
    unfold cDef at q
    cases z : Nat.beq ds.length n with
    | false => rw [z] at q; exact q.elim
    | true => rw [← r.length, Nat.eq_of_beq_eq_true z, hn]
  refine ⟨f, fd, hm, F, hb, F.okX S hlen fun cdv A outer s H vs Q E hr h => ?_⟩
  obtain ⟨Fz, ds, sm, r, q⟩ := h
  refine ⟨_, body cdv A outer s H E Fz hr, ?_⟩
  unfold cDef at q
  cases z : Nat.beq ds.length n with
  | false => rw [z] at q; exact q.elim
  | true =>
    rw [z] at q
    have hz := Nat.eq_of_beq_eq_true z
    refine ⟨Fz, datL ds ++ noL j, start_ok sm r (by rw [hN, hz]), ?_⟩
    simp only at q
    unfold endD at q
    cases y : B (datL ds ++ noL j) with
    | rt d =>
      rw [y] at q
      cases y2 : d.solid with
      | false => simp only [y2] at q
      | true => simp only [y2] at q; exact fun F' H' v x r => q.2 F' H' v x r
    | nx e => rw [y] at q; exact fun F' σ' H' _ s' => q.2 F' H' _ s'.ext .non
    | exc c e => rw [y] at q; exact fun F' σ' H' _ s' => q F' H' s'.ext
    | bk e => rw [y] at q; exact q.elim
    | ct e => rw [y] at q; exact q.elim
    | bad => rw [y] at q; exact q.elim
/-- nothing promised -/
theorem fm_bad {st : Stmt} {x : Str} {ps : List Str} {k : Nat} {f : Addr} {fd : FuncData} (F : Fun K x x st f fd) (hm : mg x = some (.ref f)) (hb : Binds K fd ps []) : Fm P w K mg base cl k x st ps (fun _ => .bad) :=
  ⟨f, fd, hm, F, hb, ⟨fun vs H Q E ⟨_, _, _, _, q⟩ => q.elim, fun A outer s H args us vs Q E hr he hb hv ⟨_, _, _, _, q⟩ => q.elim⟩⟩
/-- a def that calls itself -/
theorem fm_rec {st : Stmt} {x : Str} {ps : List Str} {k0 : Nat} {m : Nat → List D → Res D} (h0 : Fm P w K mg base cl k0 x st ps (m 0)) (hs : ∀ j, Fm P w K mg base cl (k0 + j) x st ps (m j) → Fm P w K mg base cl (k0 + (j + 1)) x st ps (m (j + 1))) : ∀ j, Fm P w K mg base cl (k0 + j) x st ps (m j)
  | 0 => h0
  | j + 1 => hs j (fm_rec h0 hs j)
end

/-! ### keywords -/
def permL {α : Type} (idx : List Nat) (l : List α) : List α := idx.filterMap fun j => l[j]?
def permD : List Nat → List D → Option (List D)
  | [], _ => some []
  | j :: r, l => match nthD l j with
    | some d => (match permD r l with | some k => some (d :: k) | none => none)
    | none => none
theorem permD_rd {K : PySem.W.Frag} {F : Hp} : ∀ {idx : List Nat} {l k : List D} {vs : List V}, permD idx l = some k → RdL K F l vs → RdL K F k (permL idx vs) ∧ ∀ j ∈ idx, j < vs.length
  | [], _, _, _, h, _ => by cases h; exact ⟨.nil, fun _ h => nomatch h⟩
  | j :: r, l, k, vs, h, rd => by
    simp only [permD, nthD_eq] at h
    cases q : l[j]? with
    | none => rw [q] at h; cases h
    | some d =>
      rw [q] at h
      cases q2 : permD r l with
      | none => simp only [q2] at h; cases h
      | some k' =>
        simp only [q2] at h
        cases h
        obtain ⟨v, e, rv⟩ := rd.get q
        obtain ⟨r1, r2⟩ := permD_rd q2 rd
        refine ⟨?_, fun i hi => ?_⟩
        · unfold permL
          rw [List.filterMap_cons, e]
          exact .cons rv r1
        · rcases List.mem_cons.mp hi with rfl | hi
          · exact (List.getElem?_eq_some_iff.mp e).1
          · exact r2 i hi
theorem perm_vals : ∀ {idx : List Nat} {vs : List V} {us : List Value}, Vals vs us → Vals (permL idx vs) (permL idx us)
  | [], _, _, _ => .nil
  | j :: r, vs, us, h => by
    unfold permL
    rw [List.filterMap_cons, List.filterMap_cons]
    cases q : vs[j]? with
    | none => rw [h.none_of q]; exact perm_vals (idx := r) h
    | some v =>
      obtain ⟨u, e, rv⟩ := h.get q
      rw [e]
      exact .cons rv (perm_vals (idx := r) h)
def cCallK (m : List D → Res D) (idx : List Nat) (L Mk : CA) : CE := fun e => (L e).bind fun us => (Mk e).bind fun ws => match permD idx (us ++ ws) with
  | some l => m l
  | none => .bad
def PPK (X : Cx) (cl : Nat → Value) (W : WX) (kws : List Keyword) (L : CA) : Prop := PK X kws (ta X.K cl W L)
theorem PK.imp {X : Cx} {es : List Keyword} {t t' : TA} (h : PK X es t) (i : ∀ σ H Q, t' σ H Q → t σ H Q) : PK X es t' := ⟨fun pos pins s σ H Q I q => h.run pos pins s σ H Q I (i σ H Q q)⟩
/-- how a def binds keywords (h by rfl, the values as letters) -/
def KB (K : PySem.W.Frag) (fd : FuncData) (ps ks : List Str) (idx : List Nat) (a : Nat) : Prop := ∀ (s : Shared) (us ws : List Value), us.length = a → ws.length = ks.length → BindsTo s fd ⟨us, ks.zip ws⟩ (ps.zip (permL idx (us ++ ws)))
section
variable {X : Cx} {cl : Nat → Value} {W : WX} {a : Expr} {A : CE} {es : List Expr} {kws : List Keyword} {L Mk : CA} {pos p kpos : Pos} {x : Str} {nm : Option Str} {k : Nat} {st : Stmt} {ps ks : List Str} {m : List D → Res D} {idx : List Nat} {na : Nat}
theorem ppk_nil : PPK X cl W [] aN := PK.imp pk_nil fun _ _ _ ⟨F, e, st, h⟩ => PostA.at h st.sub .nil
theorem ppk_cons (ha : PP X cl W a A) (hr : PPK X cl W kws L) : PPK X cl W (⟨nm, a, kpos⟩ :: kws) (aC A L) := PK.imp (pk_cons ha hr) fun _ _ _ ⟨F, e, st, h⟩ => go1A st h fun d F1 H1 v x1 st1 r1 h1 => goAA st1 h1 fun l F2 H2 vs x2 st2 r2 h2 => by
  cases q : d.solid with
  | false => rw [q] at h2; exact h2.elim
  | true =>
    rw [q] at h2
    exact PostA.at h2 st2.sub (.cons ((r1.rd q).same x2.f) r2)
/-- f(k = e, ..) and f(e, .., k = e, ..), by the wp of the arguments -/
theorem run_k {f : Addr} {fd : FuncData} {sp : Sp} {E : XK} {pins : List (Addr × Obj)} {σ : St} {H : Hp} {s : Shared} {Q : VK} {us ws : List Value} {vs zs : List V} (F : FnOk X.prog X.w X.K X.mg X.base (L2.CX X.prog X.w) k f fd ps sp) (hr : Room k X.A) (hb : KB X.K fd ps ks idx na) (hx : PassesAt (L2.CX X.prog X.w) X σ E)
    (I : L2.Inv X pins σ H s) (r : Vals vs us) (rz : Vals zs ws) (l1 : us.length = na) (l2 : ws.length = ks.length) (h : sp (permL idx (vs ++ zs)) H Q E) : wpAny (model X.prog X.w) X.A (call (.ref f) us (ks.zip ws)) (EP X pins σ Q) X.xe s := by
  refine wpAny_call (codeAny_mono (F.run X.A X.stack s H ⟨us, ks.zip ws⟩ (permL idx (us ++ ws)) (permL idx (vs ++ zs)) Q E hr I.env0 (hb s us ws l1 l2) (perm_vals (r.append rz)) h) fun r s' hq => ?_)
  cases r with
  | error e => exact hx pins H s e s' I hq
  | ok fl =>
    cases fl with
    | ret u => exact I.after hq
    | next => exact False.elim hq
    | brk => exact False.elim hq
    | cont => exact False.elim hq
theorem pp_callK0 (G : Fm X.prog X.w X.K X.mg X.base cl k x st ps m) (hs : Solid m) (hr : Room k X.A) (tk : Takes X W) (hg : Gl X x) (hkw : PPK X cl W kws Mk) (hb : ∀ f fd, Fun X.K x x st f fd → KB X.K fd ps ks idx 0) (hL : ∀ e l, Mk e = .ok l → l.length = ks.length)
    (hall : (backToKw pos (keywordEach kws X.env)).all (·.1.isSome) = true := by rfl) (hks : (backToKw pos (keywordEach kws X.env)).filterMap (·.1) = ks := by rfl)
    (hdb : (x == ("__debug__" : Str)) = false := by decide) (hpl : ((backTo pos (starEach [] X.env)).any (·.1) || (backToKw pos (keywordEach kws X.env)).any (·.1.isNone)) = false := by rfl) :
    PP X cl W (.Call (.Name x p) [] kws pos) (cCallK m idx aN Mk) := by
  obtain ⟨f, fd, hm, F, _, ok⟩ := G.ex
  refine ⟨fun pins s σ H Q I ⟨Fz, e, stt, h⟩ => ?_⟩
  refine wpAny_Call_Name_kw (ld_glob I hg hm ?_ hdb)
  refine PySem.W.callWith_KW0 (h₀ := X.base) I.ok.mod.kin F.kp hall ?_ hpl
  refine thn (hkw.run pos pins s σ H (fun zs H2 => zs.length = ks.length ∧ spP X.K cl m (permL idx ([] ++ zs)) H2 Q (WE W σ)) I ?_) fun ws s2 ⟨zs, H2, I2, rz, q1, q2⟩ => ⟨I2.kIn, ?_⟩
  · refine ⟨Fz, e, stt, ?_⟩
    unfold cCallK aN at h
    simp only [Res.bind, List.nil_append] at h
    cases q : Mk e with
    | exc c => rw [q] at h; exact h
    | bad => rw [q] at h; exact h
    | ok l =>
      rw [q] at h
      intro F1 H1 vs x1 r1
      cases q2 : permD idx l with
      | none => simp only [q2] at h; exact h.elim
      | some k =>
        simp only [q2] at h
        refine ⟨by rw [← r1.length]; exact hL e l q, ?_⟩
        exact sp_go x1.sub (permD_rd q2 r1).1 (PostE.ext h x1) (hs k)
  · rw [hks]
    exact run_k ok hr (hb f fd F) (passAt tk σ) I2 .nil rz rfl (by rw [← rz.length]; exact q1) q2
theorem pp_callK (G : Fm X.prog X.w X.K X.mg X.base cl k x st ps m) (hs : Solid m) (hr : Room k X.A) (tk : Takes X W) (hg : Gl X x) (ha : PPA X cl W (a :: es) L) (hkw : PPK X cl W kws Mk) (hb : ∀ f fd, Fun X.K x x st f fd → KB X.K fd ps ks idx na) (hA : ∀ e l, L e = .ok l → l.length = na) (hL : ∀ e l, Mk e = .ok l → l.length = ks.length)
    (hall : (backToKw pos (keywordEach kws X.env)).all (·.1.isSome) = true := by rfl) (hks : (backToKw pos (keywordEach kws X.env)).filterMap (·.1) = ks := by rfl)
    (hdb : (x == ("__debug__" : Str)) = false := by decide) (he : starEach (a :: es) X.env = (false, eval a X.env) :: starEach es X.env := by rfl)
    (hpl : ((backTo pos (starEach (a :: es) X.env)).any (·.1) || (backToKw pos (keywordEach kws X.env)).any (·.1.isNone)) = false := by rfl) :
    PP X cl W (.Call (.Name x p) (a :: es) kws pos) (cCallK m idx L Mk) := by
  obtain ⟨f, fd, hm, F, _, ok⟩ := G.ex
  refine ⟨fun pins s σ H Q I ⟨Fz, e, stt, h⟩ => ?_⟩
  refine wpAny_Call_Name_kw (ld_glob I hg hm ?_ hdb)
  refine PySem.W.callWith_KW (h₀ := X.base) I.ok.mod.kin F.kp hall (thn (ha.run pos pins s σ H (fun vs H1 => vs.length = na ∧ ta X.K cl W Mk σ H1 fun zs H2 => zs.length = ks.length ∧ spP X.K cl m (permL idx (vs ++ zs)) H2 Q (WE W σ)) I ?_) fun us s1 ⟨vs, H1, I1, r, q0, q⟩ => ?_) hpl he
  · refine ⟨Fz, e, stt, ?_⟩
    unfold cCallK at h
    cases qL : L e with
    | exc c => rw [qL] at h; exact h
    | bad => rw [qL] at h; exact h
    | ok l =>
      rw [qL] at h
      simp only [Res.bind] at h
      intro F1 H1 vs x1 r1
      refine ⟨by rw [← r1.length]; exact hA e l qL, F1, e, stt.ext x1, ?_⟩
      cases q : Mk e with
      | exc c => rw [q] at h; exact PostE.ext (r := .exc c) h x1
      | bad => rw [q] at h; exact h
      | ok l2 =>
        rw [q] at h
        intro F2 H2 zs x2 r2
        cases q2 : permD idx (l ++ l2) with
        | none => simp only [q2] at h; exact h.elim
        | some k =>
          simp only [q2] at h
          refine ⟨by rw [← r2.length]; exact hL e l2 q, ?_⟩
          exact sp_go x2.sub (permD_rd q2 ((r1.same x2.f).append r2)).1 (PostE.ext h (x1.trans x2)) (hs k)
  · refine thn (hkw.run pos pins s1 σ H1 _ I1 q) fun ws s2 ⟨zs, H2, I2, rz, q1, q2⟩ => ⟨I2.kIn, ?_⟩
    rw [hks]
    exact run_k ok hr (hb f fd F) (passAt tk σ) I2 r rz (by show us.length = na; rw [← r.length]; exact q0) (by rw [← rz.length]; exact q1) q2
end
end M
namespace M
open PySem PySem.Spec PyProof.Rows L2

/-- what is known of the own classes of exceptions: exm: caught by the clause's class hv; isE: of the built-in class T -/
def ExF (K : PySem.W.Frag) (cl : Nat → Value) (hv : Value) (exm : Nat → Bool) : Prop := ∀ c, ∃ D, cl c = .ref D ∧ PySem.W.exmOne K (.ref D) hv = some (exm c)
def ExI (K : PySem.W.Frag) (cl : Nat → Value) (T : String) (isE : Nat → Bool) : Prop := ∀ c, ∃ D, cl c = .ref D ∧ ExcC K D ∧ PySem.W.kitOne K (.ref D) (.type T) = some (isE c)
def tryC (B : CS) (exm : Nat → Bool) (C : Nat → CS) : CS := fun e => match B e with
  | .exc c e1 => (match exm c with
    | true => (match C c e1 with | .exc _ _ => .bad | r => r)
    | false => .exc c e1)
  | r => r
theorem PostS.tryC {K : PySem.W.Frag} {cl : Nat → Value} {W W' : WX} {F0 H0 F : Hp} {Dn : Ends} {B : CS} {exm : Nat → Bool} {C : Nat → CS} {e : En} (h : PostS K cl W F0 H0 F Dn (tryC B exm C e))
    (k : ∀ c e1 F' σ' H', Same F F' → StS K F0 H0 F' e1 σ' H' → (exm c = true → PostS K cl W0 F0 H0 F' Dn (C c e1)) → (exm c = false → W (cl c) none σ' H') → W' (cl c) none σ' H') : PostS K cl W' F0 H0 F Dn (B e) := by
  unfold M.tryC at h
  cases q : B e with
  | nx e1 => rw [q] at h; exact h
  | rt d => rw [q] at h; exact h
  | bk e1 => rw [q] at h; exact h
  | ct e1 => rw [q] at h; exact h
  | bad => rw [q] at h; exact h
  | exc c e1 =>
    rw [q] at h
    intro F' σ' H' x s
    refine k c e1 F' σ' H' x s (fun z => ?_) (fun z => ?_)
    · simp only [z] at h
      cases y : C c e1 with
      | exc c2 e2 => rw [y] at h; exact h.elim
      | nx e2 => rw [y] at h; exact PostS.grow (r := .nx e2) _ _ _ _ _ x h
      | rt d => rw [y] at h; exact h
      | bk e2 => rw [y] at h; exact PostS.grow (r := .bk e2) _ _ _ _ _ x h
      | ct e2 => rw [y] at h; exact PostS.grow (r := .ct e2) _ _ _ _ _ x h
      | bad => rw [y] at h; exact h
    · simp only [z] at h
      exact h F' σ' H' x s
section
variable {X : Cx} {cl : Nat → Value} {W : WX} {F0 H0 : Hp} {body : List Stmt} {B : CS} {x n : Str} {hv : Value} {i j : Nat} {np pos pos' p1 p2 p3 p4 p5 p6 p7 p8 : Pos} {exm isE : Nat → Bool} {s : Str} {T : Str} {Tn : String} {j1 : Nat}
/-- [str, isinstance(n, T)] within an except suite -/
theorem suite_lst {a D : Addr} {oe : Obj} {pn : List (Addr × Obj)} (C : ExcC X.K D) (hz : Zc (.ref D) none oe) (hf : ∃ vs, oe.data = .fields vs) (hi : X.N[i]? = some n) (hln : X.env.kindOf n = some .local) (hgI : Gl X "isinstance") (hmI : X.mg "isinstance" = none) (hgT : Gl X T) (hmT : X.mg T = none) (hvT : bootBuiltins T = some (.type Tn))
    (hnT : T ≠ "__name__") (hdT : (T == ("__debug__" : Str)) = false) (hdn : (n == ("__debug__" : Str)) = false) (hcn : (n == ("__classdict__" : Str)) = false)
    (h1 : starEach [.Constant (.str s) j1 p1, .Call (.Name "isinstance" p2) [.Name n p3, .Name T p4] [] p5] X.env = (false, eval (.Constant (.str s) j1 p1) X.env) :: starEach [.Call (.Name "isinstance" p2) [.Name n p3, .Name T p4] [] p5] X.env)
    (h2 : starEach [.Call (.Name "isinstance" p2) [.Name n p3, .Name T p4] [] p5] X.env = (false, eval (.Call (.Name "isinstance" p2) [.Name n p3, .Name T p4] [] p5) X.env) :: starEach [] X.env)
    (h3 : starEach [.Name n p3, .Name T p4] X.env = (false, eval (.Name n p3) X.env) :: starEach [.Name T p4] X.env) (h4 : starEach [.Name T p4] X.env = (false, eval (.Name T p4) X.env) :: starEach [] X.env) (h5 : (backTo p5 (starEach [.Name T p4] X.env)).any (·.1) = false) :
    PE (X.suite a ((a, oe) :: pn)) (.List [.Constant (.str s) j1 p1, .Call (.Name "isinstance" p2) [.Name n p3, .Name T p4] [] p5] p6) (tLst (tCons (tC (.str s)) (tCons (tCB (rIsE X.K D a) (tCons (tVar i) (tCons (tC (.ty Tn)) tNil))) tNil))) :=
  pe_lst (pa_cons pe_str (pa_cons (pe_callB (call_isE C hz hf) hgI hmI boot_isinstance (pa_cons (pe_var hi (.inl hln) hdn hcn) (pa_cons (pe_bltn (v := .ty Tn) hgT hmT hvT rfl hnT hdT) pa_nil h4) h3) (by decide) (by decide) h3 h5) pa_nil h2) h1)
theorem suite_go {K : PySem.W.Frag} {a D : Addr} {b : Bool} {F : Hp} {e : En} {σ : St} {H : Hp} {Q : VK} (s0 : StS K F0 H0 F e σ H) (hs : PySem.PyData.strOk s = true) (hk : PySem.W.kitOne K (.ref D) (.type Tn) = some b) (hi : (σ.set i (some (V.ref a)))[i]? = some (some (.ref a)))
    (k : ∀ F' H' p, Same F F' → StS K F0 H0 F' e σ H' → Rd K F' (.lst [.str s, .bl b]) (.ref p) → Q (.ref p) H') : tLst (tCons (tC (.str s)) (tCons (tCB (rIsE K D a) (tCons (tVar i) (tCons (tC (.ty Tn)) tNil))) tNil)) (σ.set i (some (.ref a))) H Q := by
  refine ⟨.ref a, hi, .ty Tn, .type Tn, b, rfl, fun u r => r, hk, by show 2 ≤ sizeLine; decide, fun p np => ?_⟩
  have w := Ext.put s0.st.sub np (.lst [.str s, .bl b])
  exact k _ _ p w.f (s0.grow w) (.lst upd_same (.cons (.str _ hs) (.cons (.bl _) .nil)))
def lstE (s : Str) (isE : Nat → Bool) (c : Nat) : D := .lst [.str s, .bl (isE c)]
/-- within the list -/
def inE (i : Nat) (e : En) (r : RS) : RS := match Nat.blt i e.length with | true => r | false => .bad
theorem inE_ok {K : PySem.W.Frag} {cl : Nat → Value} {W : WX} {F0 H0 F : Hp} {Dn : Ends} {i : Nat} {e : En} {r : RS} (h : PostS K cl W F0 H0 F Dn (inE i e r)) : i < e.length ∧ PostS K cl W F0 H0 F Dn r := by
  unfold inE at h
  cases q : Nat.blt i e.length with
  | true => rw [q] at h; exact ⟨Nat.le_of_ble_eq_true q, h⟩
  | false => rw [q] at h; exact h.elim
/-- try: .. except X as n: return [str, isinstance(n, T)] -/
theorem pps_tryR (hs : X.stack = X.env :: X.outer) (hf : X.env.frame = some X.env.locals) (hN : X.N.Nodup) (hi : X.N[i]? = some n) (hln : X.env.kindOf n = some .local) (hc : Names X x hv) (tk : Takes X W) (hE : ExF X.K cl hv exm) (hI : ExI X.K cl Tn isE)
    (hgI : Gl X "isinstance") (hmI : X.mg "isinstance" = none) (hgT : Gl X T) (hmT : X.mg T = none) (hvT : bootBuiltins T = some (.type Tn))
    (hb : ∀ (W : WX) (pn : List (Addr × Obj)) (xe : Value → Shared → Prop), Takes (X.tr pn xe) W → PassesOwn (model X.prog X.w) X.A X.env xe → PPSs (X.tr pn xe) cl W F0 H0 body B)
    (hst : PySem.PyData.strOk s = true := by decide +kernel) (hnT : T ≠ "__name__" := by decide) (hdT : (T == ("__debug__" : Str)) = false := by decide) (hdn : (n == ("__debug__" : Str)) = false := by decide) (hcn : (n == ("__classdict__" : Str)) = false := by decide)
    (h1 : starEach [.Constant (.str s) j1 p1, .Call (.Name "isinstance" p2) [.Name n p3, .Name T p4] [] p5] X.env = (false, eval (.Constant (.str s) j1 p1) X.env) :: starEach [.Call (.Name "isinstance" p2) [.Name n p3, .Name T p4] [] p5] X.env := by rfl)
    (h2 : starEach [.Call (.Name "isinstance" p2) [.Name n p3, .Name T p4] [] p5] X.env = (false, eval (.Call (.Name "isinstance" p2) [.Name n p3, .Name T p4] [] p5) X.env) :: starEach [] X.env := by rfl)
    (h3 : starEach [.Name n p3, .Name T p4] X.env = (false, eval (.Name n p3) X.env) :: starEach [.Name T p4] X.env := by rfl) (h4 : starEach [.Name T p4] X.env = (false, eval (.Name T p4) X.env) :: starEach [] X.env := by rfl) (h5 : (backTo p5 (starEach [.Name T p4] X.env)).any (·.1) = false := by rfl) :
    PPS X cl W F0 H0 (.Try body [.ExceptHandler (some (.Name x np)) (some n) [.Return (some (.List [.Constant (.str s) j1 p1, .Call (.Name "isinstance" p2) [.Name n p3, .Name T p4] [] p5] p6)) p7] pos'] [] [] pos) (tryC B exm fun c e => inE i e (.rt (lstE s isE c))) := by
  refine PS.imp (ps_try_as (tb := fun W => ts X.K cl W F0 H0 B) (ts := fun a cls d Dn σ H => ∃ D, cls = .ref D ∧ d = none ∧ ExcC X.K D ∧ tRet (tLst (tCons (tC (.str s)) (tCons (tCB (rIsE X.K D a) (tCons (tVar i) (tCons (tC (.ty Tn)) tNil))) tNil))) Dn σ H)
    hs hf hN hi hln hc tk hb (fun a oe cls d pn hz hfs => ⟨fun pins s σ H Dn I q => ?_⟩)) fun Dn σ H ⟨F, e, st, h⟩ => ?_
  · obtain ⟨D, rfl, rfl, C, q⟩ := q
    exact (pss_one (ps_ret (suite_lst C hz hfs hi hln hgI hmI hgT hmT hvT hnT hdT hdn hcn h1 h2 h3 h4 h5))).run pins s σ H Dn I q
  · refine ⟨F, e, st, PostS.tryC h fun c e1 F' σ' H' x s1 ky kn => ?_⟩
    obtain ⟨D, eD, he⟩ := hE c
    obtain ⟨D', eD', C, hk⟩ := hI c
    rw [eD] at eD'
    cases eD'
    refine ⟨exm c, by rw [eD]; exact he, fun z a na => ?_, fun z => kn z⟩
    obtain ⟨hlen, hy⟩ := inE_ok (ky z)
    rw [s1.st.len] at hlen
    refine ⟨D, eD, rfl, C, ?_⟩
    exact suite_go s1 hst hk (by rw [List.getElem?_set_self hlen]) fun F2 H2 p x2 s2 r2 => hy _ _ _ s2.ext r2
/-- try: .. except X as n: y = [str, isinstance(n, T)] -/
theorem pps_tryA {y : Str} {py : Pos} (hs : X.stack = X.env :: X.outer) (hf : X.env.frame = some X.env.locals) (hN : X.N.Nodup) (hi : X.N[i]? = some n) (hln : X.env.kindOf n = some .local) (hj : X.N[j]? = some y) (hly : Loc X.env.scope y) (hij : i ≠ j) (hc : Names X x hv) (tk : Takes X W) (hE : ExF X.K cl hv exm) (hI : ExI X.K cl Tn isE)
    (hgI : Gl X "isinstance") (hmI : X.mg "isinstance" = none) (hgT : Gl X T) (hmT : X.mg T = none) (hvT : bootBuiltins T = some (.type Tn))
    (hb : ∀ (W : WX) (pn : List (Addr × Obj)) (xe : Value → Shared → Prop), Takes (X.tr pn xe) W → PassesOwn (model X.prog X.w) X.A X.env xe → PPSs (X.tr pn xe) cl W F0 H0 body B)
    (hst : PySem.PyData.strOk s = true := by decide +kernel) (hnT : T ≠ "__name__" := by decide) (hdT : (T == ("__debug__" : Str)) = false := by decide) (hdn : (n == ("__debug__" : Str)) = false := by decide) (hcn : (n == ("__classdict__" : Str)) = false := by decide)
    (hsw : swapsWith (.List [.Constant (.str s) j1 p1, .Call (.Name "isinstance" p2) [.Name n p3, .Name T p4] [] p5] p6) (some (.Name y py)) p7.line X.env = pure false := by rfl) (hfn : X.fn y = true ∨ X.env.scope.names.lookup y = some .local := by first | exact .inl rfl | exact .inr rfl | assumption)
    (h1 : starEach [.Constant (.str s) j1 p1, .Call (.Name "isinstance" p2) [.Name n p3, .Name T p4] [] p5] X.env = (false, eval (.Constant (.str s) j1 p1) X.env) :: starEach [.Call (.Name "isinstance" p2) [.Name n p3, .Name T p4] [] p5] X.env := by rfl)
    (h2 : starEach [.Call (.Name "isinstance" p2) [.Name n p3, .Name T p4] [] p5] X.env = (false, eval (.Call (.Name "isinstance" p2) [.Name n p3, .Name T p4] [] p5) X.env) :: starEach [] X.env := by rfl)
    (h3 : starEach [.Name n p3, .Name T p4] X.env = (false, eval (.Name n p3) X.env) :: starEach [.Name T p4] X.env := by rfl) (h4 : starEach [.Name T p4] X.env = (false, eval (.Name T p4) X.env) :: starEach [] X.env := by rfl) (h5 : (backTo p5 (starEach [.Name T p4] X.env)).any (·.1) = false := by rfl) :
    PPS X cl W F0 H0 (.Try body [.ExceptHandler (some (.Name x np)) (some n) [.Assign [.Name y py] (.List [.Constant (.str s) j1 p1, .Call (.Name "isinstance" p2) [.Name n p3, .Name T p4] [] p5] p6) p7] pos'] [] [] pos) (tryC B exm fun c e => inE i e (.nx ((e.set j (.dat (lstE s isE c))).set i .no))) := by
  refine PS.imp (ps_try_as (tb := fun W => ts X.K cl W F0 H0 B) (ts := fun a cls d Dn σ H => ∃ D, cls = .ref D ∧ d = none ∧ ExcC X.K D ∧ tAsg (tLst (tCons (tC (.str s)) (tCons (tCB (rIsE X.K D a) (tCons (tVar i) (tCons (tC (.ty Tn)) tNil))) tNil))) (gName j) Dn σ H)
    hs hf hN hi hln hc tk hb (fun a oe cls d pn hz hfs => ⟨fun pins s σ H Dn I q => ?_⟩)) fun Dn σ H ⟨F, e, st, h⟩ => ?_
  · obtain ⟨D, rfl, rfl, C, q⟩ := q
    exact (pss_one (ps_set (X := X.suite a ((a, oe) :: pn)) hN hj hly (suite_lst C hz hfs hi hln hgI hmI hgT hmT hvT hnT hdT hdn hcn h1 h2 h3 h4 h5) hsw hfn)).run pins s σ H Dn I q
  · refine ⟨F, e, st, PostS.tryC h fun c e1 F' σ' H' x s1 ky kn => ?_⟩
    obtain ⟨D, eD, he⟩ := hE c
    obtain ⟨D', eD', C, hk⟩ := hI c
    rw [eD] at eD'
    cases eD'
    refine ⟨exm c, by rw [eD]; exact he, fun z a na => ?_, fun z => kn z⟩
    obtain ⟨hlen, hy⟩ := inE_ok (ky z)
    rw [s1.st.len] at hlen
    refine ⟨D, eD, rfl, C, ?_⟩
    refine suite_go s1 hst hk (by rw [List.getElem?_set_self hlen]) fun F2 H2 p x2 s2 r2 => ?_
    have e3 : ((σ'.set i (some (V.ref a))).set j (some (V.ref p))).set i none = (σ'.set j (some (V.ref p))).set i none := by
      rw [List.set_comm _ _ hij, List.set_set]
    obtain ⟨a1, b1⟩ := s2.st.set (i := j) r2
    obtain ⟨a2, b2⟩ := a1.unset (i := i)
    show Dn.nx (((σ'.set i (some (V.ref a))).set j (some (V.ref p))).set i none) H2
    rw [e3]
    exact hy _ _ _ x2 (s2.keep a2 (b1.trans b2))
/-- try: .. except X: suite -/
theorem pps_tryO {b₀ : Stmt} {suite : List Stmt} {C : CS} (hs : X.stack = X.env :: X.outer) (hf : X.env.frame = some X.env.locals) (hc : Names X x hv) (tk : Takes X W) (hE : ExF X.K cl hv exm)
    (hb : ∀ (W : WX) (pn : List (Addr × Obj)) (xe : Value → Shared → Prop), Takes (X.tr pn xe) W → PassesOwn (model X.prog X.w) X.A X.env xe → PPSs (X.tr pn xe) cl W F0 H0 body B)
    (hsu : ∀ (a : Addr) (pn : List (Addr × Obj)), PPSs (X.suite a pn) cl W0 F0 H0 (b₀ :: suite) C) :
    PPS X cl W F0 H0 (.Try body [.ExceptHandler (some (.Name x np)) none (b₀ :: suite) pos'] [] [] pos) (tryC B exm fun _ => C) := by
  refine PS.imp (ps_try_only (tb := fun W => M.ts X.K cl W F0 H0 B) (ts := fun _ _ _ => M.ts X.K cl W0 F0 H0 C) hs hf hc tk hb (fun a oe cls d pn hz hfs => hsu a _)) fun Dn σ H ⟨F, e, st, h⟩ => ?_
  refine ⟨F, e, st, PostS.tryC h fun c e1 F' σ' H' x s1 ky kn => ?_⟩
  obtain ⟨D, eD, he⟩ := hE c
  exact ⟨exm c, by rw [eD]; exact he, fun z a na => ⟨F', e1, s1, ky z⟩, fun z => kn z⟩
end
end M
namespace M
open PySem PySem.Spec PyProof.Rows L2

/-! ### a law that does not look at its script -/
def spLawM (K : PySem.W.Frag) : Sp := fun vs H Q _ => ∃ (a : Addr) (ns : List Int), vs = [.ref a] ∧ SqL K H a (ns.map V.int) ∧ ns.length ≤ 63 ∧ ∀ H', Q (.bl true) H'
def okT : Res D → Bool
  | .ok d => (match d with | .bl b => b | _ => false)
  | _ => false
theorem okT_eq : ∀ {r : Res D}, okT r = true → r = .ok (.bl true)
  | .ok d, h => by
    cases d with
    | bl b => cases b with
      | true => rfl
      | false => cases h
    | _ => cases h
  | .exc _, h => nomatch h
  | .bad, h => nomatch h
theorem start_no {K : PySem.W.Frag} {H : Hp} {N : List Str} {vs : List V} {k : Nat} (hk : k = N.length) (hv : vs.length ≤ N.length) : StS K H H H (noL k) (L2.start N vs) H := by
  have own0 : ∀ (i : Nat) (t : Sl), t.isOwn = true → (noL k)[i]? = some t → False := fun i l o1 h => by cases noL_get _ _ _ h; cases o1
  refine ⟨⟨Same.refl _, ?_, fun i s h => ?_, fun i j l l' a o1 _ h1 _ _ _ => (own0 i l o1 h1).elim⟩, Ext.refl (Same.refl _), fun i l a o1 h1 _ => (own0 i l o1 h1).elim⟩
  · unfold L2.start
    simp [noL_len]
    omega
  · cases noL_get _ _ _ h
    trivial
section
variable {P : Program} {w : World} {K : PySem.W.Frag} {mg : Str → Option Value} {base : Heap} {cl : Nat → Value}
theorem fm_law {st : Stmt} {N : List Str} {k j : Nat} {B : CS} {f : Addr} {fd : FuncData} (F : Fun K "law" "law" st f fd) (S : FnScope N ["script"] (defScope st)) (hN : N.length = j + 1)
    (body : ∀ (cdv : Value) (A : Around) (outer : List PySem.Env) (s : Shared) (H : Hp) (E : XK) (Fz : Hp), Room k (bodyX P w K mg base N "law" st f cdv A outer s H E).A → PPSs (bodyX P w K mg base N "law" st f cdv A outer s H E) cl (WD E) Fz H (defBody st) B)
    (hB : okT (endD (B (noL (j + 1)))) = true) : FnOk P w K mg base (L2.CX P w) (k + 1) f fd ["script"] (spLawM K) := by
  refine F.okX S (fun vs H Q E ⟨a, ns, e, _⟩ => by subst e; rfl) fun cdv A outer s H vs Q E hr ⟨a, ns, e, _, _, q⟩ => ?_
  refine ⟨_, body cdv A outer s H E H hr, ?_⟩
  subst e
  refine ⟨H, noL (j + 1), start_no hN.symm (by rw [hN]; simp), ?_⟩
  have h := okT_eq hB
  unfold endD at h
  cases y : B (noL (j + 1)) with
  | rt d =>
    rw [y] at h
    cases z : d.solid with
    | false => simp only [z] at h; cases h
    | true =>
      simp only [z] at h
      cases h
      exact fun F' H' v x r => by cases r; exact q H'
  | nx e => rw [y] at h; cases h
  | exc c e => rw [y] at h; cases h
  | bk e => rw [y] at h; cases h
  | ct e => rw [y] at h; cases h
  | bad => rw [y] at h; cases h
end
/-- what is known of an own class of exceptions -/
structure Own (K : PySem.W.Frag) (mg : Str → Option Value) (x : Str) (C : Addr) (bm : List Value) (nw : String) : Prop where
  g : mg x = some (.ref C)
  x : PySem.W.excIn K C bm nw = true
  k : PySem.W.keepIn K (.ref C) = true
  b : PySem.W.subIn K (.ref C) (.type "BaseException") = some true
  t : PySem.W.typeIn K (.ref C) = some (.type "type")
theorem okx_never (w : World) (P : Program) (H : Hp) (s : Shared) (e : Value) (s' : Shared) (h : L2.CX P w [] H s (fun _ _ _ => False) e s') : False := by
  obtain ⟨_, _, _, _, _, _, _, _, _, _, _, _, h⟩ := h
  exact h
end M
namespace M
open PySem PySem.Spec PyProof.Rows L2

/-! ### a comprehension's block, by one look -/
def blkB (N : List Str) (sc scope : Scope) (own : List (Str × Nat)) : Bool :=
  (scope.names.all fun y => decide (scope.names.lookup y.1 = some y.2) &&
    ((match y.2 with
      | .free => decide (sc.names.lookup y.1 = some .cell) || decide (sc.names.lookup y.1 = some .free)
      | .local => (own.map (·.1)).contains y.1 || !(N.contains y.1)
      | .cell => (own.map (·.1)).contains y.1 || !(N.contains y.1)
      | _ => true))) && own.all fun p => decide (N[p.2]? = some p.1)
theorem blk_of {N : List Str} {sc scope : Scope} {own : List (Str × Nat)} (hk : scope.kind = .function) (h : blkB N sc scope own = true) : BlkOk N sc scope own := by
  unfold blkB at h
  rw [Bool.and_eq_true, List.all_eq_true, List.all_eq_true] at h
  obtain ⟨h1, h2⟩ := h
  refine ⟨hk, fun y hy => ?_, fun p hp => of_decide_eq_true (h2 p hp), fun y hy e => ?_, fun y hy e => ?_⟩
  · have := h1 y hy
    rw [Bool.and_eq_true] at this
    exact of_decide_eq_true this.1
  · have := h1 y hy
    rw [Bool.and_eq_true] at this
    have := this.2
    rw [e] at this
    simp only [Bool.or_eq_true, decide_eq_true_eq] at this
    exact this
  · have := h1 y hy
    rw [Bool.and_eq_true] at this
    have := this.2
    rcases e with e | e <;> rw [e] at this <;> simp only [Bool.or_eq_true, List.contains_iff_mem, Bool.not_eq_true', List.contains_eq_mem, decide_eq_true_eq, decide_eq_false_iff_not] at this <;> exact this
end M
namespace M
open PySem PySem.Spec PyProof.Rows L2
theorem alen0 : ∀ e l, aN e = .ok l → l.length = 0 := fun e l h => by cases h; rfl
theorem alenS {A : CE} {B : CA} {n : Nat} (h : ∀ e l, B e = .ok l → l.length = n) : ∀ e l, aC A B e = .ok l → l.length = n + 1 := fun e l q => by
  unfold aC at q
  cases z : A e with
  | exc c => rw [z] at q; cases q
  | bad => rw [z] at q; cases q
  | ok d =>
    rw [z] at q
    simp only [Res.bind] at q
    cases y : B e with
    | exc c => rw [y] at q; cases q
    | bad => rw [y] at q; cases q
    | ok k =>
      rw [y] at q
      simp only at q
      cases x : d.solid with
      | false => rw [x] at q; cases q
      | true => rw [x] at q; cases q; rw [List.length_cons, h e k y]
theorem kb_of {K : PySem.W.Frag} {x qual : Str} {st : Stmt} {f : Addr} {fd : FuncData} {ps ks : List Str} {ix : List Nat} {na : Nat} (F : Fun K x qual st f fd)
    (h : ∀ (kV doc pm : Value) (an : Option Addr) (cdv ct : Value) (s : Shared) (us ws : List Value), us.length = na → ws.length = ks.length → BindsTo s (PySem.W.fnOf x qual (defArgs st) (defBody st) (defScope st) .none kV doc pm an cdv ct) ⟨us, ks.zip ws⟩ (ps.zip (permL ix (us ++ ws)))) : KB K fd ps ks ix na := by
  obtain ⟨oc, od, kV, doc, pm, an, cdv, ct, osl, rfl, lk, hcd⟩ := F.ex
  exact fun s us ws h1 h2 => h kV doc pm an cdv ct s us ws h1 h2
theorem pp_gint {X : Cx} {cl : Nat → Value} {W : WX} {x : Str} {i : Int} {pos : Pos} (hg : Gl X x) (h : ∃ t, X.mg x = some (.int i t)) (hd : (x == ("__debug__" : Str)) = false := by decide) : PP X cl W (.Name x pos) (cC (.int i)) :=
  let ⟨_, h⟩ := h
  pp_glob (v := .int i) hg h ⟨_, rfl⟩ (fun _ => .int i) hd
theorem pp_gstr {X : Cx} {cl : Nat → Value} {W : WX} {x s : Str} {pos : Pos} (hg : Gl X x) (h : ∃ t, X.mg x = some (.str s t)) (hs : PySem.PyData.strOk s = true := by decide +kernel) (hd : (x == ("__debug__" : Str)) = false := by decide) : PP X cl W (.Name x pos) (cC (.str s)) :=
  let ⟨_, h⟩ := h
  pp_glob (v := .str s) hg h ⟨_, rfl⟩ (fun _ => .str s hs) hd
theorem kit_typ {K : PySem.W.Frag} {C : Addr} {T : String} {b : Bool} (h : PySem.W.kitMeta T = true) (e : PySem.W.subIn K (.ref C) (.type T) = some b) : PySem.W.kitOne K (.ref C) (.type T) = some b := by
  unfold PySem.W.kitOne
  rw [if_neg (show ¬ ((Value.ref C == Value.type T) = true) from fun h => nomatch h)]
  show (if PySem.W.kitMeta T = true then PySem.W.subIn K (.ref C) (.type T) else none) = some b
  rw [if_pos h, e]
end M
namespace M
open PySem PySem.Spec PyProof.Rows L2

/-! ### own lists change -/
theorem StS.mut {K : PySem.W.Frag} {F0 H0 F H : Hp} {e : En} {σ : St} {i : Nat} {l l' : List D} {a : Addr} {vs' : List V} (s : StS K F0 H0 F e σ H) (h : e[i]? = some (.own l)) (ha : σ[i]? = some (some (.ref a))) (hn : F a = none) (r : RdL K F l' vs') :
    StS K F0 H0 F (e.set i (.own l')) σ (upd H a (.lst vs')) :=
  s.chg h rfl ha hn ⟨a, vs', rfl, upd_same, hn, r⟩
def ownL (e : En) (i : Nat) : Option (List D) := match e[i]? with
  | some (.own l) => some l
  | _ => none
theorem ownL_eq {e : En} {i : Nat} {l : List D} (h : ownL e i = some l) : e[i]? = some (.own l) := by
  unfold ownL at h
  split at h
  · rename_i k q; cases h; exact q
  · cases h
def sApp (i : Nat) (A : CE) : CS := fun e => match ownL e i with
  | some l => rE (A e) e fun d => (match d.solid with | true => (match Nat.ble l.length 900000 with | true => .nx (e.set i (.own (l ++ [d]))) | false => .bad) | false => .bad)
  | none => .bad
def sExt (i : Nat) (A : CE) : CS := fun e => match ownL e i with
  | some l => rE (A e) e fun d => (match d with | .lst k => (match Nat.ble (l ++ k).length 900000 with | true => .nx (e.set i (.own (l ++ k))) | false => .bad) | _ => .bad)
  | none => .bad
section
variable {X : Cx} {cl : Nat → Value} {W : WX} {F0 H0 : Hp} {a : Expr} {A : CE} {pos cp ap p1 : Pos} {x : Str} {i : Nat}
theorem pps_app (hi : X.N[i]? = some x) (ha : PP X cl W a A) (hv : Vis X.env.scope x := by first | exact Or.inl rfl | exact Or.inr (Or.inl rfl) | exact Or.inr (Or.inr rfl)) (hd : (x == ("__debug__" : Str)) = false := by decide) (hcd : (x == ("__classdict__" : Str)) = false := by decide)
    (hbase : attributeBase (.Name x p1) "append" X.env (eval (.Name x p1) X.env) = eval (.Name x p1) X.env := by rfl)
    (hfew : ((backTo cp (starEach [a] X.env)).all (fun x => !x.1) && (backToKw cp (keywordEach [] X.env)).all (fun x => x.1.isSome)
      && decide ([a].length + ([] : List Keyword).length + (if ([] : List Keyword).isEmpty then 0 else 1) < 30)) = true := by rfl)
    (hline : (ap.endLine == cp.line) = true := by rfl) (hs : starEach [a] X.env = (false, eval a X.env) :: starEach [] X.env := by rfl) (hplain : (backTo cp (starEach [] X.env)).any (·.1) = false := by rfl)
    (hsw : swapsWith (.Call (.Attribute (.Name x p1) "append" ap) [a] [] cp) none pos.line X.env = pure false := by rfl) :
    PPS X cl W F0 H0 (.Expr (.Call (.Attribute (.Name x p1) "append" ap) [a] [] cp) pos) (sApp i A) :=
  PS.imp (ps_expr (pe_bm PySem.F.plainAttrs_list PySem.F.slot_list_append PySem.F.type_list_append mt_append (pe_var hi hv hd hcd) (pa_cons ha pa_nil hs) hbase hfew hline hs hplain) hsw) fun Dn σ H ⟨F, e, s, h⟩ => by
    unfold sApp at h
    cases q : ownL e i with
    | none => rw [q] at h; exact h.elim
    | some l =>
      rw [q] at h
      have q' := ownL_eq q
      obtain ⟨p, vs, h1, h2, h3, h4⟩ := s.st.at_ i _ q'
      refine ⟨.ref p, h1, .inl ⟨rfl, vs, .inl (.inl h2)⟩, goSE s h fun d F1 H1 v x1 s1 r1 h1' => ?_⟩
      cases z : d.solid with
      | false => rw [z] at h1'; exact h1'.elim
      | true =>
        rw [z] at h1'
        cases y : Nat.ble l.length 900000 with
        | false => rw [y] at h1'; exact h1'.elim
        | true =>
          rw [y] at h1'
          obtain ⟨p2, vs2, g1, g2, g3, g4⟩ := s1.st.at_ i _ q'
          rw [h1] at g1
          cases g1
          refine ⟨p, vs2, v, rfl, rfl, g2, ?_, ?_⟩
          · have := Nat.le_of_ble_eq_true y
            rw [← g4.length, sizeLine_eq]; omega
          · exact h1' _ _ _ (Same.refl _) (s1.mut q' h1 g3 (g4.append (.cons (r1.rd z) .nil)))
theorem pps_ext (hi : X.N[i]? = some x) (ha : PP X cl W a A) (hv : Vis X.env.scope x := by first | exact Or.inl rfl | exact Or.inr (Or.inl rfl) | exact Or.inr (Or.inr rfl)) (hd : (x == ("__debug__" : Str)) = false := by decide) (hcd : (x == ("__classdict__" : Str)) = false := by decide)
    (hbase : attributeBase (.Name x p1) "extend" X.env (eval (.Name x p1) X.env) = eval (.Name x p1) X.env := by rfl)
    (hfew : ((backTo cp (starEach [a] X.env)).all (fun x => !x.1) && (backToKw cp (keywordEach [] X.env)).all (fun x => x.1.isSome)
      && decide ([a].length + ([] : List Keyword).length + (if ([] : List Keyword).isEmpty then 0 else 1) < 30)) = true := by rfl)
    (hline : (ap.endLine == cp.line) = true := by rfl) (hs : starEach [a] X.env = (false, eval a X.env) :: starEach [] X.env := by rfl) (hplain : (backTo cp (starEach [] X.env)).any (·.1) = false := by rfl)
    (hsw : swapsWith (.Call (.Attribute (.Name x p1) "extend" ap) [a] [] cp) none pos.line X.env = pure false := by rfl) :
    PPS X cl W F0 H0 (.Expr (.Call (.Attribute (.Name x p1) "extend" ap) [a] [] cp) pos) (sExt i A) :=
  PS.imp (ps_expr (pe_bm PySem.F.plainAttrs_list PySem.F.slot_list_extend PySem.F.type_list_extend mt_extend (pe_var hi hv hd hcd) (pa_cons ha pa_nil hs) hbase hfew hline hs hplain) hsw) fun Dn σ H ⟨F, e, s, h⟩ => by
    unfold sExt at h
    cases q : ownL e i with
    | none => rw [q] at h; exact h.elim
    | some l =>
      rw [q] at h
      have q' := ownL_eq q
      obtain ⟨p, vs, h1, h2, h3, h4⟩ := s.st.at_ i _ q'
      refine ⟨.ref p, h1, .inl ⟨rfl, vs, .inl (.inl h2)⟩, goSE s h fun d F1 H1 v x1 s1 r1 h1' => ?_⟩
      cases d with
      | lst k =>
        cases r1 with
        | lst f1 f2 =>
          rename_i b ws
          simp only at h1'
          cases y : Nat.ble (l ++ k).length 900000 with
          | false => rw [y] at h1'; exact h1'.elim
          | true =>
            rw [y] at h1'
            obtain ⟨p2, vs2, g1, g2, g3, g4⟩ := s1.st.at_ i _ q'
            rw [h1] at g1
            cases g1
            refine ⟨p, b, vs2, ws, rfl, rfl, g2, s1.st.sub _ _ f1, ?_, ?_⟩
            · have := Nat.le_of_ble_eq_true y
              rw [List.length_append, g4.length, f2.length] at this
              rw [sizeLine_eq]; omega
            · exact h1' _ _ _ (Same.refl _) (s1.mut q' h1 g3 (g4.append f2))
      | _ => exact h1'.elim
/-- x = [..], a list of one's own -/
theorem pps_setN {pos' : Pos} {L : CA} (hN : X.N.Nodup) (hi : X.N[i]? = some x) (hx : Loc X.env.scope x) (ha : PPN X cl W a L) (hs : swapsWith a (some (.Name x pos')) pos.line X.env = pure false := by rfl) (hf : X.fn x = true ∨ X.env.scope.names.lookup x = some .local := by first | exact .inl rfl | exact .inr rfl | assumption) :
    PPS X cl W F0 H0 (.Assign [.Name x pos'] a pos) (fun e => inE i e (sSetN i L e)) := PS.imp (ps_set hN hi hx ha hs hf) fun Dn σ H ⟨F, e, s, h⟩ => by
  obtain ⟨hl, h⟩ := inE_ok h
  refine goSN s h fun l F1 H1 p vs x1 s1 np r z h1 => ?_
  exact h1 _ _ _ (Same.refl _) (own_set s1 hl np r)
end
end M
namespace M
open PySem PySem.Spec PyProof.Rows L2

/-! ### starred arguments -/
def aS (A : CE) (B : CA) : CA := fun e => (A e).bind fun x => match toLst x with | some k => (B e).bind fun l => .ok (k ++ l) | none => .bad
section
variable {X : Cx} {cl : Nat → Value} {W : WX} {a b : Expr} {es : List Expr} {A B : CE} {L : CA} {pos p p2 p3 : Pos} {x : Str}
theorem RdT.toL {K : PySem.W.Frag} {F H : Hp} (sm : Same F H) {d : D} {v : V} {l : List D} (r : RdT K F H d v) (e : toLst d = some l) : ∃ p vs, v = .ref p ∧ (SqT K H p vs ∨ SqL K H p vs) ∧ RdL K F l vs := by
  cases d with
  | tup k => cases e; cases r with | tup h1 r1 => exact ⟨_, _, rfl, .inl (SqT.sameX sm h1), r1⟩
  | lst k => cases e; cases r with | lst h1 r1 => exact ⟨_, _, rfl, .inr (.inl (.inl (sm _ _ h1))), r1⟩
  | bor k => cases e; obtain ⟨p, vs, rfl, h1, r1⟩ := r; exact ⟨_, _, rfl, .inr (.inl (.inl h1)), r1⟩
  | _ => cases e
theorem ppa_star (ha : PP X cl W a A) (hr : PPA X cl W es L) (hs : starEach (.Starred a p :: es) X.env = (true, eval a X.env) :: starEach es X.env := by rfl) : PPA X cl W (.Starred a p :: es) (aS A L) := PA.imp (StX.pa_star ha hr hs) fun _ _ _ ⟨F, e, st, h⟩ => go1A st h fun d F1 H1 v x1 st1 r1 h1 => by
  cases q : toLst d with
  | none => rw [q] at h1; exact h1.elim
  | some k =>
    rw [q] at h1
    obtain ⟨p, vs, rfl, h2, h3⟩ := r1.toL st1.sub q
    exact ⟨p, vs, rfl, h2, goAA st1 h1 fun l F2 H2 ws x2 st2 r2 h4 => PostA.at h4 st2.sub ((h3.same x2.f).append r2)⟩
end

/-! ### enumerate(t), t a tuple -/
open AutoSeq1 (wpAny_loadPart') in
theorem meets_enum_newT (l : Addr) (items : Array Value) (n : Nat) (dct : Option Addr) (sl : Array (Option Value)) :
    Meets (Builtin.«enumerate.__new__» ⟨[.type "enumerate", .ref l], []⟩) (fun _ R s => s.heap.get? l = some { cls := .type "tuple", dict := dct, data := .seq items n, slots := sl } ∧
      R (.ok (.ret (.ref (s.heap.push { cls := .type "tuple_iterator", data := .fields #[.ref l, .int 0 0] }).objs.size)))
        { s with heap := (s.heap.push { cls := .type "tuple_iterator", data := .fields #[.ref l, .int 0 0] }).push { cls := .type "enumerate", data := .fields #[.none, .bool false, .ref s.heap.objs.size, rawInt 0, .none, .none] } }) :=
  .of_wp fun prog w A R s h => by
    obtain ⟨hp, g, d, tk, os⟩ := s; obtain ⟨hl, h⟩ := h
    have hsub := sub_enumerate
    have hL : Heap.IsTuple (Shared.heap ⟨hp, g, d, tk, os⟩) l items := ⟨_, hl, rfl, n, rfl⟩
    wp_walk using wpAny_loadPart' hl
    refine wpAny_stack_any fun st => wpAny_pure ?_
    split
    · rename_i c _ _ _ _ _
      cases (c == Value.type "enumerate")
      · wp_walk using wpAny_loadPart' hl, wpAny_pyIter_tuple hL
        exact ⟨_, rfl, h⟩
      · wp_walk using wpAny_loadPart' hl, wpAny_pyIter_tuple hL
        exact ⟨_, rfl, h⟩
    · wp_walk using wpAny_loadPart' hl, wpAny_pyIter_tuple hL
      exact ⟨_, rfl, h⟩
section
variable {prog : Program} {w : World} {A : Around} {E : Value → Shared → Prop} {s : Shared}
theorem call_enum_tuple {l : Addr} {items : Array Value} {Q : Value → Shared → Prop} (hL : s.heap.IsTuple l items)
    (h : ∀ h', IsEnum h' (s.heap.objs.size + 1) s.heap.objs.size 0 .none → h'.IsTupleIter s.heap.objs.size l 0 → h'.objs.size = s.heap.objs.size + 2 →
      (∀ b o, s.heap.get? b = some o → h'.get? b = some o) → Q (.ref (s.heap.objs.size + 1)) { s with heap := h' }) :
    wpAny (model prog w) A (call (.type "enumerate") [.ref l]) Q E s := by
  obtain ⟨⟨c, dct, dt, sl⟩, hl, hc, n, hd⟩ := hL
  replace hc : c = .type "tuple" := hc
  replace hd : dt = .seq items n := hd
  subst hc hd
  refine callType_new PySem.F.called_enumerate (by decide) (PySem.F.typeCall_enumerate_1 _) (PySem.F.newCall_enumerate_1 _) (fun obj => PySem.F.args_object_init_2 obj _) PySem.F.entry_enumerate_new
    (meets_enum_newT l items n dct sl) ⟨hl, ?_⟩
  have hz : (s.heap.push { cls := .type "tuple_iterator", data := .fields #[.ref l, .int 0 0] }).objs.size = s.heap.objs.size + 1 := Heap.size_push ..
  show _ ∧ _
  rw [hz]
  have he : IsEnum ((s.heap.push { cls := .type "tuple_iterator", data := .fields #[.ref l, .int 0 0] }).push
      { cls := .type "enumerate", data := .fields #[.none, .bool false, .ref s.heap.objs.size, rawInt 0, .none, .none] }) (s.heap.objs.size + 1) s.heap.objs.size 0 .none := by
    have := Heap.get?_push_size (s.heap.push { cls := .type "tuple_iterator", data := .fields #[.ref l, .int 0 0] })
      (o := { cls := .type "enumerate", data := .fields #[.none, .bool false, .ref s.heap.objs.size, rawInt 0, .none, .none] }) rfl
    rw [hz] at this; exact this
  refine ⟨⟨_, he, rfl⟩, h _ he ⟨_, Heap.get?_push_of_some _ (Heap.get?_push_size _ rfl), rfl, rfl⟩ (by rw [Heap.size_push, hz]) fun b o x => Heap.get?_push_of_some _ (Heap.get?_push_of_some _ x)⟩
end
def IteT (K : PySem.W.Frag) (a : Addr) : It :=
  ⟨fun i H => ∃ (xs : List V) (x : V), SqT K H a xs ∧ xs[i]? = some x, fun i H v H' => ∃ T x, v = .ref T ∧ H T = none ∧ H' = upd H T (.tup [.int (i : Nat), x]) ∧ ∀ xs, SqT K H a xs → xs[i]? = some x, fun i H => ∃ xs : List V, SqT K H a xs ∧ xs.length ≤ i⟩
theorem turn_enumT {P : Program} {w : World} {K : PySem.W.Frag} {elts : List Expr} {kk : Nat} {tpos : Pos} (a e it : Addr) :
    Turn P w K (.Tuple elts kk tpos) (IteT K a) [e, it] e (fun i h => (∃ old, IsEnum h e it ((i : Nat) : Int) old) ∧ h.IsTupleIter it a i ∧ e ≠ it) where
  mem := by simp
  obj := fun i h st b hb => by
    obtain ⟨⟨old, he⟩, ⟨o, ho, hc, hd⟩, _⟩ := st
    have e' : b = e ∨ b = it := by simpa using hb
    rcases e' with z | z
    · rw [z]; exact ⟨_, he, fun v q => nomatch q⟩
    · rw [z]; exact ⟨o, ho, fun v q => by rw [hd] at q; cases q⟩
  keep := fun i h h' st k => let ⟨⟨old, he⟩, hi, hne⟩ := st; ⟨⟨old, k e (by simp) _ he⟩, hi.at fun o q => k it (by simp) o q, hne⟩
  item := by
    intro X hP hw hK hc i pins s σ H E I hf st hg
    subst hP hw hK
    obtain ⟨⟨old, he⟩, hit, hne⟩ := st
    obtain ⟨xs, x, hq, hx⟩ := hg
    obtain ⟨its, rv, p, hz⟩ := I.tuple hq
    have hT0 : s.heap.IsTuple a its.toArray := p
    obtain ⟨u, hu, ru⟩ := rv.get hx
    have hel : e < s.heap.objs.size := Heap.lt_size he
    have hil : it < s.heap.objs.size := by obtain ⟨_, q, _⟩ := hit; exact Heap.lt_size q
    have hai : a ≠ it := fun c => by
      obtain ⟨o, ho, hc', _⟩ := hit
      obtain ⟨o', ho', hc'', _⟩ := hT0
      rw [c] at ho'
      rw [ho] at ho'
      cases ho'
      exact absurd (Value.type.inj (hc'.symm.trans hc'')) (by decide)
    have hae : e ≠ a := fun c => by
      obtain ⟨o', ho', hc'', _⟩ := hT0
      rw [← c] at ho'
      rw [show s.heap.get? e = _ from he] at ho'
      cases ho'
      exact absurd (Value.type.inj hc'') (by decide)
    have hlt : i < its.toArray.size := by
      have := (List.getElem?_eq_some_iff.mp hu).1
      simpa using this
    refine wpAny_pyNext_enum_itemD (Draws.tuple (prog := X.prog) (w := X.w) (A := X.A.in1) (I.ok.hd hc) it a hai its.toArray) he ⟨hit, hT0⟩ hlt hne (by simp [hne, hae]) fun y h' tk hP ho hst hT hsz hk => ?_
    have ey : y = u := by
      have : its.toArray[i]? = some u := by simpa using hu
      rw [this] at hP
      exact (Option.some.inj hP).symm
    subst ey
    refine ⟨_, rfl, wpAny_letOwnedTupleGo_enum (s := { s with heap := h', toks := tk + 1 }) ho fun h'' he' sb => ?_⟩
    have hT2 : h''.get? s.heap.objs.size = some { cls := .type "tuple", data := .seq #[.int i tk, y] } := (sb.2 _ (Nat.ne_of_gt hel)).trans hT
    have new : ObjOk X.prog X.w (upd H s.heap.objs.size (.tup [.int (i : Nat), x])) h'' s.heap.objs.size (.tup [.int (i : Nat), x]) :=
      ⟨by show 2 ≤ sizeLine; decide, [.int i tk, y], .cons ⟨_, rfl⟩ (.cons ru .nil), ⟨_, hT2, rfl, _, rfl⟩⟩
    have I1 : Inv X pins σ (upd H s.heap.objs.size (.tup [.int (i : Nat), x])) { s with heap := h'', toks := tk + 1 } :=
      I.turnedNew (ch := [e, it]) (fun b ob hb q => (sb.2 b (fun z => hb (by simp [z]))).trans (hk b ob (fun z => hb (by simp [z])) (fun z => hb (by simp [z])) q)) hf (Nat.le_refl _) new
    refine ⟨.ref s.heap.objs.size, _, I1, rfl, ⟨_, x, rfl, I.hok.fresh (Nat.le_refl _), rfl, fun ys hy => by rw [I.tuple_inj hy hq]; exact hx⟩, ⟨⟨y, ?_⟩, hst.1.at fun o q => (sb.2 it (Ne.symm hne)).trans q, hne⟩, fun b hb => ?_⟩
    · have e1 : ((i + 1 : Nat) : Int) = (i : Int) + 1 := by omega
      rw [e1]; exact he'
    · have hb' : b < s.heap.objs.size := by
        have e' : b = e ∨ b = it := by simpa using hb
        rcases e' with z | z
        · rw [z]; exact hel
        · rw [z]; exact hil
      rw [upd_ne (Nat.ne_of_lt hb')]
      exact (hf b hb).1
  done := by
    intro X hP hw hK hc i pins s σ H E I hf st hg
    subst hP hw hK
    obtain ⟨⟨old, he⟩, hit, hne⟩ := st
    obtain ⟨xs, hq, hx⟩ := hg
    obtain ⟨its, rv, p, hz⟩ := I.tuple hq
    have hT0 : s.heap.IsTuple a its.toArray := p
    obtain ⟨f0, f1, f2, f3, f4, f5⟩ := hf it (by simp)
    have hl := rv.length
    have hT : s.TypeIs (.ref e) "enumerate" := ⟨_, he, rfl⟩
    unfold pyNext
    refine wpAny_bind (wpAny_attempt (wpAny_callSpecial?_slot (name := Str.ofString "__next__") hT PySem.F.slot_enumerate_next
      (wpAny_call_entry PySem.F.slot_enumerate_next hT PySem.F.entry_enumerate_next ?_ (PySem.F.args_enumerate_next_1 _))))
    show wpAny _ _ (field (.ref e) 2 >>= _) _ _ _
    refine wpAny_bind (wpAny_field he rfl (x := .ref it) rfl ?_)
    refine wpAny_bind (wpAny_nextOf_tuple_end (A := X.A.in1) (I.ok.hd hc) hit hT0 (by simp; omega) fun h' x he' hx' => ?_)
    obtain ⟨o, ho, hc'⟩ := hx'
    refine wpAny_bind (wpAny_isInstance (T := "StopIteration") (b := true) ⟨o, ho, hc'⟩ isSubtype_stop ?_)
    exact wpAny_pure ⟨rfl, I.turned (t' := s.toks) (fun b o hb q => he' b o hb q) f0 f1 f3 f4 f5⟩
  self := fun A i s Q E st h => let ⟨⟨_, he⟩, _⟩ := st; wpAny_pyIter_enum he h
end M
namespace M
open PySem PySem.Spec PyProof.Rows L2

/-! ### enumerate -/
def enumL : Nat → List D → List D
  | _, [] => []
  | n, d :: l => .tup [.int (Int.ofNat n), d] :: enumL (n + 1) l
def enumD (l : List D) : Option (List D) := match l with
  | [d] => (match d with | .lst a => some (enumL 0 a) | .tup a => some (enumL 0 a) | _ => none)
  | _ => none
theorem enumL_len : ∀ (n : Nat) (l : List D), (enumL n l).length = l.length
  | _, [] => rfl
  | n, d :: l => by rw [enumL, List.length_cons, List.length_cons, enumL_len]
theorem enumL_get : ∀ (n : Nat) (l : List D) (i : Nat) (d : D), l[i]? = some d → (enumL n l)[i]? = some (.tup [.int (Int.ofNat (n + i)), d])
  | _, [], _, _, h => by simp at h
  | n, x :: l, 0, d, h => by simp at h; subst h; simp [enumL]
  | n, x :: l, i + 1, d, h => by
    rw [enumL, List.getElem?_cons_succ, enumL_get (n + 1) l i d (by simpa using h)]
    congr 4; congr 1; omega
theorem pi_enumA {X : Cx} {e : Expr} {ta : TA} {p pos tpos : Pos} {elts : List Expr} {kk : Nat} (hg : Gl X "enumerate") (hm : X.mg "enumerate" = none) (ha : PA X [e] ta) (hs : starEach [e] X.env = [(false, eval e X.env)] := by rfl) :
    PI X (.Tuple elts kk tpos) (.Call (.Name "enumerate" p) [e] [] pos) (fun σ H R => ta σ H fun vs H1 => ∃ a, vs = [.ref a] ∧ ((∃ xs, SqL X.K H1 a xs ∧ R (Ite X.K a) H1) ∨ (∃ xs, SqT X.K H1 a xs ∧ R (IteT X.K a) H1))) := by
  refine ⟨fun pins s σ H R I h => ?_⟩
  refine Call_ (ld_blt I hg hm boot_enumerate (PyProof.Rows.callWith_type1 (thn (ha.run pos pins s σ H _ I h) fun us s1 ⟨vs, H1, I1, r1, q1⟩ => ?_) hs rfl))
  obtain ⟨a, ex, q1⟩ := q1
  subst ex
  cases r1 with
  | cons r rr =>
    cases rr
    cases r
    rcases q1 with ⟨xs, hq, q⟩ | ⟨xs, hq, q⟩
    · obtain ⟨its, rv, p', hz⟩ := I1.list hq
      refine call_enumerate_list p'.isList fun h' he hit hsz hk => wpAny_pyIter_enum he ?_
      have I2 : Inv X pins σ H1 { s1 with heap := h' } := I1.kept (t' := s1.toks) hk
      refine ⟨s1.heap.objs.size + 1, [s1.heap.objs.size + 1, s1.heap.objs.size], _, _, H1, rfl, I2, turn_enum a (s1.heap.objs.size + 1) s1.heap.objs.size, ⟨⟨.none, he⟩, hit, Nat.succ_ne_self _⟩, fun b hb => ?_, q⟩
      have e' : b = s1.heap.objs.size + 1 ∨ b = s1.heap.objs.size := by simpa using hb
      have hle : s1.heap.objs.size ≤ b := by
        rcases e' with z | z
        · rw [z]; exact Nat.le_add_right _ _
        · rw [z]; exact Nat.le_refl _
      exact I1.fpOk hle (I1.hok.fresh hle)
    · obtain ⟨its, rv, p', hz⟩ := I1.tuple hq
      refine call_enum_tuple p' fun h' he hit hsz hk => wpAny_pyIter_enum he ?_
      have I2 : Inv X pins σ H1 { s1 with heap := h' } := I1.kept (t' := s1.toks) hk
      refine ⟨s1.heap.objs.size + 1, [s1.heap.objs.size + 1, s1.heap.objs.size], _, _, H1, rfl, I2, turn_enumT a (s1.heap.objs.size + 1) s1.heap.objs.size, ⟨⟨.none, he⟩, hit, Nat.succ_ne_self _⟩, fun b hb => ?_, q⟩
      have e' : b = s1.heap.objs.size + 1 ∨ b = s1.heap.objs.size := by simpa using hb
      have hle : s1.heap.objs.size ≤ b := by
        rcases e' with z | z
        · rw [z]; exact Nat.le_add_right _ _
        · rw [z]; exact Nat.le_refl _
      exact I1.fpOk hle (I1.hok.fresh hle)
theorem walks_enum {K : PySem.W.Frag} {F : Hp} {es : List Expr} {kk : Nat} {tp : Pos} {J : It} {l : List D} {xs : List V} (r : RdL K F l xs)
    (hgo : ∀ F' H', Same F F' → Same F' H' → ∀ i x, xs[i]? = some x → J.go i H')
    (hst : ∀ F' H', Same F F' → Same F' H' → ∀ i, xs.length ≤ i → J.stop i H')
    (hy : ∀ F' H', Same F F' → Same F' H' → ∀ i v H'', J.yld i H' v H'' → ∃ T x, v = .ref T ∧ H' T = none ∧ H'' = upd H' T (.tup [.int (i : Nat), x]) ∧ xs[i]? = some x) : Walks K (.Tuple es kk tp) J (enumL 0 l) F := fun F' H' s1 s2 => by
  refine ⟨fun i hi => ?_, fun i hi => ?_, fun i v H'' hi yl => ?_⟩
  · rw [enumL_len] at hi
    obtain ⟨x, e1, _⟩ := r.get (i := i) (d := l[i]'(by omega)) (by simp)
    exact hgo F' H' s1 s2 i x e1
  · rw [enumL_len, r.length] at hi
    exact hst F' H' s1 s2 i (by omega)
  · obtain ⟨T, x, rfl, nT, rfl, e1⟩ := hy F' H' s1 s2 i v H'' yl
    obtain ⟨dx, a1, a2⟩ := r.get' e1
    have w := Ext.put s2 nT (.tup [.int (i : Nat), x])
    refine ⟨_, _, enumL_get 0 l i dx a1, w, .inr ⟨_, _, T, rfl, rfl, .of upd_same, .cons ?_ (.cons (a2.same (s1.trans w.f)) .nil)⟩⟩
    rw [Nat.zero_add]
    exact .int _
section
variable {X : Cx} {cl : Nat → Value} {W : WX} {a b : Expr} {A B : CE} {L : CA} {p pos pos' p2 p3 ap p1 : Pos} {F0 H0 : Hp} {x : Str} {i : Nat}
theorem ppi_enum {elts : List Expr} {kk : Nat} {tpos : Pos} (hg : Gl X "enumerate") (hm : X.mg "enumerate" = none) (ha : PPA X cl W [a] L)
    (hs : starEach [a] X.env = [(false, eval a X.env)] := by rfl) : PPI X cl W (.Tuple elts kk tpos) (.Call (.Name "enumerate" p) [a] [] pos) (iR enumD L) :=
  PI.imp (pi_enumA hg hm ha hs) fun σ H R ⟨F, e, st, h⟩ => goI st h fun l r F' H' vs e1 x rd k => by
    unfold enumD at e1
    split at e1
    · split at e1
      · cases e1
        cases rd with
        | cons r1 r2 =>
          cases r2
          cases r1 with
          | lst h1 q1 =>
            rename_i p1 xs
            have a1 : ∀ {F2 H2 : Hp}, Same F' F2 → Same F2 H2 → SqL X.K H2 p1 xs := fun s1 s2 => .inl (.inl (s2 _ _ (s1 _ _ h1)))
            exact ⟨p1, rfl, .inl ⟨xs, a1 (Same.refl _) x.sub, k _ (walks_enum q1 (fun F2 H2 s1 s2 i x ex => ⟨xs, x, a1 s1 s2, ex⟩) (fun F2 H2 s1 s2 i hi => ⟨xs, a1 s1 s2, hi⟩) (fun F2 H2 s1 s2 i v H3 ⟨T, x, e1, e2, e3, e4⟩ => ⟨T, x, e1, e2, e3, e4 _ (a1 s1 s2)⟩))⟩⟩
      · cases e1
        cases rd with
        | cons r1 r2 =>
          cases r2
          cases r1 with
          | tup h1 q1 =>
            rename_i p1 xs
            have a1 : ∀ {F2 H2 : Hp}, Same F' F2 → Same F2 H2 → SqT X.K H2 p1 xs := fun s1 s2 => SqT.same s2 (SqT.sameX s1 h1)
            exact ⟨p1, rfl, .inr ⟨xs, a1 (Same.refl _) x.sub, k _ (walks_enum q1 (fun F2 H2 s1 s2 i x ex => ⟨xs, x, a1 s1 s2, ex⟩) (fun F2 H2 s1 s2 i hi => ⟨xs, a1 s1 s2, hi⟩) (fun F2 H2 s1 s2 i v H3 ⟨T, x, e1, e2, e3, e4⟩ => ⟨T, x, e1, e2, e3, e4 _ (a1 s1 s2)⟩))⟩⟩
      · cases e1
    · cases e1

/-! ### list(range(..)) -/
theorem cr_range1 : CallR X (.type "range") (fun vs H Q => ∃ j, vs = [V.int j] ∧ ∀ p, H p = none → Q (.ref p) (upd H p (.rng 0 j))) := by
  intro pins s σ H vs us Q I r h
  obtain ⟨j, rfl, q⟩ := h
  cases r with
  | cons r rr =>
    cases rr
    obtain ⟨t, rfl⟩ := r
    refine call_range_1 ⟨.ref s.heap.objs.size, upd H s.heap.objs.size (.rng 0 j), I.laid (t' := s.toks + 1 + 1) (fun b o e => Heap.get?_push_of_some _ e) (Nat.le_refl _) ?_, rfl, q _ (I.hok.fresh (Nat.le_refl _))⟩
    exact ⟨s.toks, t, s.toks + 1, Heap.get?_push_size _ rfl⟩
def rngV : Nat → Int → List V
  | 0, _ => []
  | n + 1, i => .int i :: rngV n (i + 1)
theorem rngV_len : ∀ (n : Nat) (i : Int), (rngV n i).length = n
  | 0, _ => rfl
  | n + 1, i => by rw [rngV, List.length_cons, rngV_len]
theorem rngV_rd {K : PySem.W.Frag} {F : Hp} : ∀ (n : Nat) (i : Int), RdL K F (rngL n i) (rngV n i)
  | 0, _ => .nil
  | n + 1, i => .cons (.int i) (rngV_rd n (i + 1))
theorem rngV_vals : ∀ (n : Nat) (lo : Int) (us : List Value), us.length = n → (∀ j u, us[j]? = some u → ∃ t, u = Value.int (lo + (j : Nat)) t) → Vals (rngV n lo) us
  | 0, lo, us, h, _ => by
    cases us with
    | nil => exact .nil
    | cons _ _ => cases h
  | n + 1, lo, us, h, g => by
    cases us with
    | nil => cases h
    | cons u us =>
      obtain ⟨t, e⟩ := g 0 u rfl
      refine .cons ⟨t, by rw [e]; congr 1; simp⟩ (rngV_vals n (lo + 1) us (by simpa using h) fun j v hj => ?_)
      obtain ⟨t, e⟩ := g (j + 1) v (by simpa using hj)
      exact ⟨t, by rw [e]; congr 1; omega⟩
theorem call_list_rng (hc : X.calm = true) : CallR X (.type "list") (fun vs H Q => ∃ p lo hi, vs = [V.ref p] ∧ H p = some (.rng lo hi) ∧ -(2 ^ 62) ≤ lo ∧ lo < 2 ^ 62 ∧ -(2 ^ 62) ≤ hi ∧ hi < 2 ^ 62 ∧ (hi - lo).toNat ≤ 1000000 ∧ ∀ q, H q = none → Q (.ref q) (upd H q (.lst (rngV (hi - lo).toNat lo)))) := by
  intro pins s σ H vs us Q I r h
  obtain ⟨p, lo, hi, rfl, hp, b1, b2, b3, b4, hn, q⟩ := h
  rw [Vals.ref1 r]
  obtain ⟨t, u, v, ho⟩ := I.hok p _ hp
  have hsz : Builtin.Range.rangeSize lo hi 1 = ((hi - lo).toNat : Nat) := by
    unfold Builtin.Range.rangeSize
    rw [if_pos (show (1 : Int) > 0 by decide)]
    by_cases c : lo < hi
    · rw [if_pos c]; omega
    · rw [if_neg c]; omega
  refine call_list_range (t := t) (u := u) (v := v) (n := (hi - lo).toNat) (I.ok.hd hc) ho ?_ hsz (by omega) fun h' tk acc' c' hk hS hacc => ?_
  · unfold Builtin.Range.small
    rw [hsz, if_pos (show (1 : Int) > 0 by decide)]
    simp only [Builtin.Range.rangeFitsLong, Bool.and_eq_true, Bool.or_eq_true, decide_eq_true_eq]
    omega
  · have hv : Vals (rngV (hi - lo).toNat lo) acc'.toList := by
      refine rngV_vals _ _ _ (by rw [Array.length_toList]; exact hacc.1) fun j w hj => ?_
      obtain ⟨t, e⟩ := hacc.2 j w (by simpa using hj)
      exact ⟨t, by rw [e]; congr 1; omega⟩
    refine ⟨.ref s.heap.objs.size, upd H s.heap.objs.size (.lst (rngV (hi - lo).toNat lo)), I.laid (t' := tk) hk (Nat.le_refl _) ⟨by rw [rngV_len, sizeLine_eq]; omega, acc'.toList, c', hv, by simpa using hS⟩, rfl, q _ (I.hok.fresh (Nat.le_refl _))⟩
end
end M
namespace M
open PySem PySem.Spec PyProof.Rows L2

/-! ### list(range(..)), list(x) as new lists -/
def lrng (lo hi : Int) : Option (List D) := match rngOk lo with
  | true => (match rngOk hi with | true => (match Nat.ble (hi - lo).toNat 1000000 with | true => some (rngL (hi - lo).toNat lo) | false => none) | false => none)
  | false => none
theorem lrng_ok {lo hi : Int} {l : List D} (h : lrng lo hi = some l) : l = rngL (hi - lo).toNat lo ∧ -(2 ^ 62) ≤ lo ∧ lo < 2 ^ 62 ∧ -(2 ^ 62) ≤ hi ∧ hi < 2 ^ 62 ∧ (hi - lo).toNat ≤ 1000000 := by
  unfold lrng at h
  cases q : rngOk lo with
  | false => rw [q] at h; cases h
  | true =>
    rw [q] at h
    cases q2 : rngOk hi with
    | false => rw [q2] at h; cases h
    | true =>
      rw [q2] at h
      cases q3 : Nat.ble (hi - lo).toNat 1000000 with
      | false => rw [q3] at h; cases h
      | true =>
        rw [q3] at h
        cases h
        have a := rngOk_ok q
        have b := rngOk_ok q2
        exact ⟨rfl, a.1, a.2, b.1, b.2, Nat.le_of_ble_eq_true q3⟩
def asI (d : D) : Option Int := match d with | .int i => some i | _ => none
def nRng1 (A : CE) : CA := fun e => (A e).bind fun d => ofO ((asI d).bind fun hi => lrng 0 hi)
def nRng2 (A B : CE) : CA := fun e => (A e).bind fun d => (B e).bind fun d2 => ofO ((asI d).bind fun lo => (asI d2).bind fun hi => lrng lo hi)
def nList (A : CE) : CA := fun e => (A e).bind fun d => match toLst d with
  | some l => (match Nat.ble l.length 1000000 with | true => .ok l | false => .bad)
  | none => .bad
section
variable {X : Cx} {cl : Nat → Value} {W : WX} {a b : Expr} {es : List Expr} {A B : CE} {L : CA} {p pos pos' p2 p3 ap p1 cp : Pos} {F0 H0 : Hp} {x : Str} {i : Nat}
theorem go2N {A : CE} {R : VK} {Q : VK} {σ : St} {F H : Hp} {e : En} {f : D → Res (List D)} (st : Stt X.K F e σ H) (h : PostN X.K cl W F H σ Q ((A e).bind f))
    (k : ∀ d F' H' v, Ext F H F' H' → Stt X.K F' e σ H' → RdT X.K F' H' d v → PostN X.K cl W F' H' σ Q (f d) → R v H') : tp X.K cl W A σ H R := go1N st h k
theorem rng_go {σ : St} {Q : VK} {F1 H1 : Hp} {e : En} {lo hi : Int} {l : List D} (st1 : Stt X.K F1 e σ H1) (z : lrng lo hi = some l) (h1 : PostN X.K cl W F1 H1 σ Q (.ok l)) {p : Addr} (np : H1 p = none) {q : Addr} (nq : (upd H1 p (.rng lo hi)) q = none) :
    Q (.ref q) (upd (upd H1 p (.rng lo hi)) q (.lst (rngV (hi - lo).toNat lo))) := by
  obtain ⟨rfl, _, _, _, _, hn⟩ := lrng_ok z
  exact h1 F1 _ q _ (Ext.add st1.sub np (.rng lo hi)) nq (rngV_rd _ _) (by rw [rngV_len, sizeLine_eq]; omega)
theorem ppn_lrng1 (hc : X.calm = true) (hl : Gl X "list") (ml : X.mg "list" = none) (hr : Gl X "range") (mr : X.mg "range" = none) (ha : PP X cl W a A)
    (h1 : starEach [.Call (.Name "range" p) [a] [] p2] X.env = (false, eval (.Call (.Name "range" p) [a] [] p2) X.env) :: starEach [] X.env := by rfl) (h2 : starEach [a] X.env = (false, eval a X.env) :: starEach [] X.env := by rfl)
    (h3 : (backTo pos (starEach [] X.env)).any (·.1) = false := by rfl) (h4 : (backTo p2 (starEach [] X.env)).any (·.1) = false := by rfl) :
    PPN X cl W (.Call (.Name "list" p3) [.Call (.Name "range" p) [a] [] p2] [] pos) (nRng1 A) :=
  PE.imp (pe_callTy (call_list_rng hc) hl ml rfl (pa_cons (pe_callTy cr_range1 hr mr rfl (pa_cons ha pa_nil h2) (by decide) (by decide) h2 h4) pa_nil h1) (by decide) (by decide) h1 h3) fun σ H Q ⟨F, e, st, h⟩ => by
    refine go1N st h fun d F1 H1 v x1 st1 r1 h1 => ?_
    cases d with
    | int hi =>
      cases r1
      simp only [asI, Option.bind_some] at h1
      cases z : lrng 0 hi with
      | none => rw [z] at h1; exact h1.elim
      | some l =>
        rw [z] at h1
        obtain ⟨_, b1, b2, b3, b4, hn⟩ := lrng_ok z
        exact ⟨hi, rfl, fun p np => ⟨p, 0, hi, rfl, upd_same, b1, b2, b3, b4, hn, fun q nq => rng_go st1 z h1 np nq⟩⟩
    | _ => exact h1.elim
theorem ppn_lrng2 (hc : X.calm = true) (hl : Gl X "list") (ml : X.mg "list" = none) (hr : Gl X "range") (mr : X.mg "range" = none) (ha : PP X cl W a A) (hb : PP X cl W b B)
    (h1 : starEach [.Call (.Name "range" p) [a, b] [] p2] X.env = (false, eval (.Call (.Name "range" p) [a, b] [] p2) X.env) :: starEach [] X.env := by rfl) (h2 : starEach [a, b] X.env = (false, eval a X.env) :: starEach [b] X.env := by rfl) (h5 : starEach [b] X.env = (false, eval b X.env) :: starEach [] X.env := by rfl)
    (h3 : (backTo pos (starEach [] X.env)).any (·.1) = false := by rfl) (h4 : (backTo p2 (starEach [b] X.env)).any (·.1) = false := by rfl) :
    PPN X cl W (.Call (.Name "list" p3) [.Call (.Name "range" p) [a, b] [] p2] [] pos) (nRng2 A B) :=
  PE.imp (pe_callTy (call_list_rng hc) hl ml rfl (pa_cons (pe_callTy cr_range2 hr mr rfl (pa_cons ha (pa_cons hb pa_nil h5) h2) (by decide) (by decide) h2 h4) pa_nil h1) (by decide) (by decide) h1 h3) fun σ H Q ⟨F, e, st, h⟩ => by
    refine go1N st h fun d F1 H1 v x1 st1 r1 h1 => go1N st1 h1 fun d2 F2 H2 v2 x2 st2 r2 h2 => ?_
    cases d with
    | int lo =>
      cases r1
      cases d2 with
      | int hi =>
        cases r2
        simp only [asI, Option.bind_some] at h2
        cases z : lrng lo hi with
        | none => rw [z] at h2; exact h2.elim
        | some l =>
          rw [z] at h2
          obtain ⟨_, b1, b2, b3, b4, hn⟩ := lrng_ok z
          exact ⟨lo, hi, rfl, fun p np => ⟨p, lo, hi, rfl, upd_same, b1, b2, b3, b4, hn, fun q nq => rng_go st2 z h2 np nq⟩⟩
      | _ => exact h2.elim
    | _ =>
      simp only [asI, Option.bind_none] at h2
      exact h2.elim
theorem ppn_list (hl : Gl X "list") (ml : X.mg "list" = none) (ha : PP X cl W a A) (h1 : starEach [a] X.env = (false, eval a X.env) :: starEach [] X.env := by rfl) (h3 : (backTo pos (starEach [] X.env)).any (·.1) = false := by rfl) :
    PPN X cl W (.Call (.Name "list" p3) [a] [] pos) (nList A) :=
  PE.imp (pe_callTy call_list_of hl ml rfl (pa_cons ha pa_nil h1) (by decide) (by decide) h1 h3) fun σ H Q ⟨F, e, st, h⟩ => by
    refine go1N st h fun d F1 H1 v x1 st1 r1 h1 => ?_
    cases z : toLst d with
    | none => rw [z] at h1; exact h1.elim
    | some l =>
      rw [z] at h1
      simp only at h1
      cases y : Nat.ble l.length 1000000 with
      | false => rw [y] at h1; exact h1.elim
      | true =>
        rw [y] at h1
        obtain ⟨p, vs, rfl, hs, rl⟩ := r1.toL st1.sub z
        exact ⟨p, vs, rfl, hs.symm, fun q nq => h1 F1 H1 q vs (Ext.refl st1.sub) nq rl (by rw [← rl.length]; exact line_ok y)⟩

/-! ### sum, max, min -/
def intsL : List D → Option (List Int)
  | [] => some []
  | d :: l => (match d with | .int i => (match intsL l with | some r => some (i :: r) | none => none) | _ => none)
theorem intsL_rd {K : PySem.W.Frag} {F : Hp} : ∀ {l : List D} {vs : List V} {ns : List Int}, RdL K F l vs → intsL l = some ns → vs = ns.map V.int
  | _, _, _, .nil, h => by cases h; rfl
  | _, _, _, .cons (d := d) (l := l) r t, h => by
    cases d with
    | int i =>
      cases r
      simp only [intsL] at h
      cases q : intsL l with
      | none => rw [q] at h; cases h
      | some ns => rw [q] at h; cases h; rw [intsL_rd t q]; rfl
    | _ => cases h
def sumN : List Int → Int
  | [] => 0
  | i :: l => i + sumN l
theorem sumN_eq : ∀ l : List Int, l.sum = sumN l
  | [] => rfl
  | i :: l => by rw [List.sum_cons, sumN_eq l]; rfl
def maxN : Int → List Int → Int
  | m, [] => m
  | m, i :: l => maxN (match PySem.W.Z.ltB m i with | true => i | false => m) l
def minN : Int → List Int → Int
  | m, [] => m
  | m, i :: l => minN (match PySem.W.Z.ltB i m with | true => i | false => m) l
theorem maxN_mem : ∀ (l : List Int) (m : Int), maxN m l ∈ m :: l ∧ ∀ y ∈ m :: l, y ≤ maxN m l
  | [], m => by simp [maxN]
  | i :: l, m => by
    unfold maxN
    cases q : PySem.W.Z.ltB m i with
    | true =>
      have q' : m < i := by rw [← zlt] at q; exact of_decide_eq_true q
      show maxN i l ∈ m :: i :: l ∧ ∀ y ∈ m :: i :: l, y ≤ maxN i l
      obtain ⟨a, b⟩ := maxN_mem l i
      refine ⟨List.mem_cons_of_mem _ a, fun y hy => ?_⟩
      have hi := b i List.mem_cons_self
      rcases List.mem_cons.mp hy with rfl | hy
      · omega
      · exact b y hy
    | false =>
      have q' : ¬ m < i := by rw [← zlt] at q; exact of_decide_eq_false q
      show maxN m l ∈ m :: i :: l ∧ ∀ y ∈ m :: i :: l, y ≤ maxN m l
      obtain ⟨a, b⟩ := maxN_mem l m
      refine ⟨?_, fun y hy => ?_⟩
      · rcases List.mem_cons.mp a with e | e
        · rw [e]; exact List.mem_cons_self
        · exact List.mem_cons_of_mem _ (List.mem_cons_of_mem _ e)
      · have hm := b m List.mem_cons_self
        rcases List.mem_cons.mp hy with rfl | hy
        · exact hm
        · rcases List.mem_cons.mp hy with rfl | hy
          · omega
          · exact b y (List.mem_cons_of_mem _ hy)
theorem minN_mem : ∀ (l : List Int) (m : Int), minN m l ∈ m :: l ∧ ∀ y ∈ m :: l, minN m l ≤ y
  | [], m => by simp [minN]
  | i :: l, m => by
    unfold minN
    cases q : PySem.W.Z.ltB i m with
    | true =>
      have q' : i < m := by rw [← zlt] at q; exact of_decide_eq_true q
      show minN i l ∈ m :: i :: l ∧ ∀ y ∈ m :: i :: l, minN i l ≤ y
      obtain ⟨a, b⟩ := minN_mem l i
      refine ⟨List.mem_cons_of_mem _ a, fun y hy => ?_⟩
      have hi := b i List.mem_cons_self
      rcases List.mem_cons.mp hy with rfl | hy
      · omega
      · exact b y hy
    | false =>
      have q' : ¬ i < m := by rw [← zlt] at q; exact of_decide_eq_false q
      show minN m l ∈ m :: i :: l ∧ ∀ y ∈ m :: i :: l, minN m l ≤ y
      obtain ⟨a, b⟩ := minN_mem l m
      refine ⟨?_, fun y hy => ?_⟩
      · rcases List.mem_cons.mp a with e | e
        · rw [e]; exact List.mem_cons_self
        · exact List.mem_cons_of_mem _ (List.mem_cons_of_mem _ e)
      · have hm := b m List.mem_cons_self
        rcases List.mem_cons.mp hy with rfl | hy
        · exact hm
        · rcases List.mem_cons.mp hy with rfl | hy
          · omega
          · exact b y (List.mem_cons_of_mem _ hy)
def sumD (d : D) : Option D := (lstOf d).bind fun l => (intsL l).map fun ns => .int (sumN ns)
def maxD (d : D) : Option D := (lstOf d).bind fun l => (intsL l).bind fun ns => match ns with | [] => none | i :: r => some (.int (maxN i r))
def minD (d : D) : Option D := (lstOf d).bind fun l => (intsL l).bind fun ns => match ns with | [] => none | i :: r => some (.int (minN i r))
theorem ints_go {F H : Hp} (sm : Same F H) {a : D} {x : V} (ra : RdT X.K F H a x) {l : List D} (z : lstOf a = some l) {ns : List Int} (z2 : intsL l = some ns) : ∃ p, x = .ref p ∧ SqL X.K H p (ns.map V.int) := by
  obtain ⟨p, vs, rfl, h1, r1⟩ := ra.lst sm z
  refine ⟨p, rfl, .inl (.inl ?_)⟩
  rw [← intsL_rd r1 z2]; exact h1
theorem call_sumP (hc : X.calm = true) : CallR X (.builtin "sum") (rB1 X.K sumD) := by
  intro pins s σ H xs us Q I r h
  obtain ⟨F, a, x, d, rfl, sm, ra, e, q⟩ := h
  unfold sumD at e
  cases z : lstOf a with
  | none => rw [z] at e; cases e
  | some l =>
    rw [z] at e
    simp only [Option.bind_some] at e
    cases z2 : intsL l with
    | none => rw [z2] at e; cases e
    | some ns =>
      rw [z2] at e; cases e
      obtain ⟨p, rfl, hs⟩ := ints_go sm ra z z2
      exact cr_sum hc pins s σ H _ us Q I r ⟨p, ns, rfl, hs, by rw [sumN_eq]; exact ext_same sm q (.int _)⟩
theorem call_maxP (hc : X.calm = true) : CallR X (.builtin "max") (rB1 X.K maxD) := by
  intro pins s σ H xs us Q I r h
  obtain ⟨F, a, x, d, rfl, sm, ra, e, q⟩ := h
  unfold maxD at e
  cases z : lstOf a with
  | none => rw [z] at e; cases e
  | some l =>
    rw [z] at e
    simp only [Option.bind_some] at e
    cases z2 : intsL l with
    | none => rw [z2] at e; cases e
    | some ns =>
      rw [z2] at e
      obtain ⟨p, rfl, hs⟩ := ints_go sm ra z z2
      cases ns with
      | nil => cases e
      | cons i ns =>
        cases e
        obtain ⟨a1, a2⟩ := maxN_mem ns i
        refine cr_max hc pins s σ H _ us Q I r ⟨p, i :: ns, rfl, hs, Nat.succ_pos _, fun m h1 h2 => ?_⟩
        have e : m = maxN i ns := by have := a2 m h1; have := h2 _ a1; omega
        rw [e]; exact ext_same sm q (.int _)
theorem call_minP (hc : X.calm = true) : CallR X (.builtin "min") (rB1 X.K minD) := by
  intro pins s σ H xs us Q I r h
  obtain ⟨F, a, x, d, rfl, sm, ra, e, q⟩ := h
  unfold minD at e
  cases z : lstOf a with
  | none => rw [z] at e; cases e
  | some l =>
    rw [z] at e
    simp only [Option.bind_some] at e
    cases z2 : intsL l with
    | none => rw [z2] at e; cases e
    | some ns =>
      rw [z2] at e
      obtain ⟨p, rfl, hs⟩ := ints_go sm ra z z2
      cases ns with
      | nil => cases e
      | cons i ns =>
        cases e
        obtain ⟨a1, a2⟩ := minN_mem ns i
        refine cr_min hc pins s σ H _ us Q I r ⟨p, i :: ns, rfl, hs, Nat.succ_pos _, fun m h1 h2 => ?_⟩
        have e : m = minN i ns := by have := a2 m h1; have := h2 _ a1; omega
        rw [e]; exact ext_same sm q (.int _)
def max2D (x y : D) : Option D := match x with | .int i => (match y with | .int j => some (.int (match PySem.W.Z.ltB i j with | true => j | false => i)) | _ => none) | _ => none
def min2D (x y : D) : Option D := match x with | .int i => (match y with | .int j => some (.int (match PySem.W.Z.ltB j i with | true => j | false => i)) | _ => none) | _ => none
theorem ite_zlt (i j : Int) {α : Type} (a b : α) : (if i < j then a else b) = (match PySem.W.Z.ltB i j with | true => a | false => b) := by
  rw [← zlt]
  by_cases h : i < j
  · rw [if_pos h, decide_eq_true h]
  · rw [if_neg h, decide_eq_false h]
theorem call_max2P (hc : X.calm = true) : CallR X (.builtin "max") (rB2 X.K max2D) := by
  intro pins s σ H xs us Q I r h
  obtain ⟨F, a, x, b, y, d, rfl, sm, ra, rb, e, q⟩ := h
  cases a with
  | int i =>
    cases b with
    | int j =>
      cases e; cases ra; cases rb
      refine call_max2 hc pins s σ H _ us Q I r ⟨i, j, rfl, ?_⟩
      have z : (if j > i then j else i) = (match PySem.W.Z.ltB i j with | true => j | false => i) := ite_zlt i j j i
      rw [z]
      exact ext_same sm q (.int _)
    | _ => cases e
  | _ => cases e
theorem call_min2P (hc : X.calm = true) : CallR X (.builtin "min") (rB2 X.K min2D) := by
  intro pins s σ H xs us Q I r h
  obtain ⟨F, a, x, b, y, d, rfl, sm, ra, rb, e, q⟩ := h
  cases a with
  | int i =>
    cases b with
    | int j =>
      cases e; cases ra; cases rb
      refine call_min2 hc pins s σ H _ us Q I r ⟨i, j, rfl, ?_⟩
      rw [ite_zlt]
      exact ext_same sm q (.int _)
    | _ => cases e
  | _ => cases e

/-! ### l.index(x) of a list -/
def findD (d : D) : Nat → List D → Option Nat
  | _, [] => none
  | n, z :: l => (match eqB z d with | true => some n | false => findD d (n + 1) l)
def idxD (l : List D) (y : D) : Option D := match lowD y 40 with
  | true => (match lowL l 40 with | true => (findD y 0 l).map fun n => .int (Int.ofNat n) | false => none)
  | false => none
def cIdx (A B : CE) : CE := fun e => (A e).bind fun d => match lstOf d with
  | some l => (B e).bind fun y => ofO (idxD l y)
  | none => .bad
theorem findD_ok (d : D) : ∀ (l : List D) (n m : Nat), findD d n l = some m → ∃ j z, m = n + j ∧ l[j]? = some z ∧ eqB z d = true ∧ ∀ k z', k < j → l[k]? = some z' → eqB z' d = false
  | [], _, _, h => by cases h
  | z :: l, n, m, h => by
    unfold findD at h
    cases q : eqB z d with
    | true => rw [q] at h; cases h; exact ⟨0, z, rfl, rfl, q, fun k _ hk => absurd hk (Nat.not_lt_zero _)⟩
    | false =>
      rw [q] at h
      obtain ⟨j, w, e1, e2, e3, e4⟩ := findD_ok d l (n + 1) m h
      refine ⟨j + 1, w, by omega, by simpa using e2, e3, fun k z' hk hz => ?_⟩
      cases k with
      | zero => simp at hz; subst hz; exact q
      | succ k => exact e4 k z' (by omega) (by simpa using hz)
theorem toPyL_get : ∀ (l : List D) (j : Nat) (z : PyData), (toPyL l)[j]? = some z → ∃ d, l[j]? = some d ∧ z = toPy d
  | [], _, _, h => by simp [toPyL] at h
  | d :: l, 0, z, h => by simp [toPyL] at h; exact ⟨d, rfl, h.symm⟩
  | d :: l, j + 1, z, h => by
    obtain ⟨d', a, b⟩ := toPyL_get l j z (by simpa [toPyL] using h)
    exact ⟨d', by simpa using a, b⟩
theorem toPyL_get2 : ∀ (l : List D) (j : Nat) (d : D), l[j]? = some d → (toPyL l)[j]? = some (toPy d)
  | [], _, _, h => by simp at h
  | d :: l, 0, d', h => by simp at h; subst h; simp [toPyL]
  | d :: l, j + 1, d', h => by simp only [toPyL, List.getElem?_cons_succ]; exact toPyL_get2 l j d' (by simpa using h)
theorem pp_lidx (hu : X.A.units + 65 < cLine) (ho : PP X cl W a A) (ha : PP X cl W b B)
    (hbase : attributeBase a "index" X.env (eval a X.env) = eval a X.env := by rfl)
    (hfew : ((backTo cp (starEach [b] X.env)).all (fun x => !x.1) && (backToKw cp (keywordEach [] X.env)).all (fun x => x.1.isSome)
      && decide ([b].length + ([] : List Keyword).length + (if ([] : List Keyword).isEmpty then 0 else 1) < 30)) = true := by rfl)
    (hline : (ap.endLine == cp.line) = true := by rfl) (hs : starEach [b] X.env = (false, eval b X.env) :: starEach [] X.env := by rfl) (hplain : (backTo cp (starEach [] X.env)).any (·.1) = false := by rfl) :
    PP X cl W (.Call (.Attribute a "index" ap) [b] [] cp) (cIdx A B) :=
  PE.imp (pe_bm PySem.F.plainAttrs_list PySem.F.slot_list_index PySem.F.type_list_index (mt_indexD hu) ho (pa_cons ha pa_nil hs) hbase hfew hline hs hplain) fun σ H Q ⟨F, e, st, h⟩ => by
    refine go1E st h fun d F1 H1 v x1 st1 r1 h1 => ?_
    have key : ∀ l, lstOf d = some l → ∃ p vs, v = .ref p ∧ H1 p = some (.lst vs) ∧ RdL X.K F1 l vs := fun l z => r1.lst st1.sub z
    cases z : lstOf d with
    | none => rw [z] at h1; exact h1.elim
    | some l =>
      rw [z] at h1
      obtain ⟨p, vs, rfl, h2, r2⟩ := key l z
      refine ⟨.inl ⟨rfl, vs, .inl (.inl h2)⟩, go1E st1 h1 fun d2 F2 H2 v2 x2 st2 r3 h3 => ?_⟩
      simp only [idxD] at h3
      cases q1 : lowD d2 40 with
      | false => rw [q1] at h3; exact h3.elim
      | true =>
        rw [q1] at h3
        cases q2 : lowL l 40 with
        | false => rw [q2] at h3; exact h3.elim
        | true =>
          rw [q2] at h3
          cases q3 : findD d2 0 l with
          | none => rw [q3] at h3; exact h3.elim
          | some m =>
            rw [q3] at h3
            obtain ⟨j, w, rfl, e2, e3, e4⟩ := findD_ok d2 l 0 m q3
            have g2 : H2 p = some (.lst vs) := x2.h _ _ h2
            have dl := (r2.same x2.f).dp (lowL_pure _ 40 q2)
            have dd := r3.dp st2.sub (low_pure _ 40 q1)
            refine ⟨p, v2, toPy d2, toPyL l, j, toPy w, rfl, rfl, .lst (.inl (.inl g2)) (dpAll_same st2.sub dl.1), dd.1, ?_, ?_, toPyL_get2 l j w e2, by rw [← eqB_py]; exact e3, fun m z' hm hz => ?_, ?_⟩
            · unfold SeqAt.shaped
              rw [Bool.and_eq_true]
              exact ⟨dl.2, decide_eq_true (by have := lowL_py l 40 q2; show PyData.depthAll (toPyL l) + 1 ≤ 64; omega)⟩
            · unfold SeqAt.shaped
              rw [Bool.and_eq_true]
              exact ⟨dd.2, decide_eq_true (by have := low_py d2 40 q1; omega)⟩
            · obtain ⟨d', a1, rfl⟩ := toPyL_get l m z' hz
              rw [← eqB_py]; exact e4 m d' hm a1
            · rw [Nat.zero_add] at h3
              exact PostE.at h3 st2.sub (.of (.int _))
end
end M
namespace M
open PySem PySem.Spec PyProof.Rows L2

def cCall0 (m : List D → Res D) : CE := fun _ => m []
def sAug (i : Nat) (f : Int → Int → Int) (A : CE) : CS := fun e => match cV i e with
  | .ok d => (match asI d with
    | some n => rE (A e) e fun d2 => (match asI d2 with | some k => .nx (e.set i (.dat (.int (f n k)))) | none => .bad)
    | none => .bad)
  | _ => .bad
section
variable {X : Cx} {cl : Nat → Value} {W : WX} {a b : Expr} {es : List Expr} {A B : CE} {L : CA} {p pos pos' : Pos} {F0 H0 : Hp} {x : Str} {i k : Nat} {st : Stmt} {ps : List Str} {m : List D → Res D}
theorem pp_call0 (G : Fm X.prog X.w X.K X.mg X.base cl k x st ps m) (hs : Solid m) (hr : Room k X.A) (tk : Takes X W) (hg : Gl X x) (hdb : (x == ("__debug__" : Str)) = false := by decide) : PP X cl W (.Call (.Name x p) [] [] pos) (cCall0 m) := by
  obtain ⟨f, fd, hm, F, hb, ok⟩ := G.ex
  refine ⟨fun pins s σ H Q I ⟨Fz, e, stt, h⟩ => ?_⟩
  refine wpAny_Call_Name_kw (ld_glob I hg hm ?_ hdb)
  refine PySem.W.callWith_K0 I.kIn F.kp ?_
  exact run_fnS ok hr hb (passAt tk σ) I .nil (sp_go stt.sub .nil h (hs []))
theorem pps_aug {op : Operator} {f : Int → Int → Int} (ho : PIp X op (ipI f)) (hN : X.N.Nodup) (hi : X.N[i]? = some x) (hx : Loc X.env.scope x) (ha : PP X cl W a A) (hf : X.fn x = true ∨ X.env.scope.names.lookup x = some .local := by first | exact .inl rfl | exact .inr rfl | assumption) :
    PPS X cl W F0 H0 (.AugAssign (.Name x pos') op a pos) (sAug i f A) := PS.imp (ps_aug hN hi hx ha ho hf) fun Dn σ H ⟨F, e, s, h⟩ => by
  unfold sAug at h
  have key : ∀ d, cV i e = .ok d → ∀ n, asI d = some n → e[i]? = some (.dat (.int n)) := fun d q n z => by
    unfold cV at q
    split at q
    · rename_i d' q'
      cases q
      cases d with
      | int j => cases z; exact q'
      | _ => cases z
    · cases q; cases z
    · cases q; cases z
    · cases q
  cases q : cV i e with
  | exc c => rw [q] at h; exact h.elim
  | bad => rw [q] at h; exact h.elim
  | ok d =>
    rw [q] at h
    cases z : asI d with
    | none => simp only [z] at h; exact h.elim
    | some n =>
      simp only [z] at h
      obtain ⟨v, h1, h2⟩ := s.st.at_ i _ (key d q n z)
      cases h2
      refine ⟨.int n, h1, goSE s h fun d2 F1 H1 v2 x1 s1 r1 h1' => ?_⟩
      cases d2 with
      | int j =>
        cases r1
        refine ⟨n, j, rfl, rfl, ?_⟩
        obtain ⟨a1, b1⟩ := s1.st.set (i := i) (Rd.int (K := X.K) (F := F1) (f n j))
        exact h1' _ _ _ (Same.refl _) (s1.keep a1 b1)
      | _ => exact h1'.elim
end
end M
namespace M
open PySem PySem.Spec PyProof.Rows L2

/-! ### the order of whole numbers and tuples of such -/
def cmpI (i j : Int) : Ordering := match PySem.W.Z.ltB i j with
  | true => .lt
  | false => (match PySem.W.Z.ltB j i with | true => .gt | false => .eq)
mutual
def cmpX : D → D → Ordering
  | .int i, d => (match d with | .int j => cmpI i j | _ => .lt)
  | .tup l, d => (match d with | .tup k => cmpL l k | _ => .gt)
  | _, _ => .eq
def cmpL : List D → List D → Ordering
  | [], k => (match k with | [] => .eq | _ :: _ => .lt)
  | x :: l, k => (match k with | [] => .gt | y :: k => (match cmpX x y with | .eq => cmpL l k | .lt => .lt | .gt => .gt))
end
def ltX (x y : D) : Bool := match cmpX x y with | .lt => true | _ => false
def eqX (x y : D) : Bool := match cmpX x y with | .eq => true | _ => false
theorem cmpI_cases (i j : Int) : (i < j ∧ cmpI i j = .lt) ∨ (j < i ∧ cmpI i j = .gt) ∨ (i = j ∧ cmpI i j = .eq) := by
  unfold cmpI
  rw [← zlt, ← zlt]
  by_cases h : i < j
  · rw [decide_eq_true h]; exact .inl ⟨h, rfl⟩
  · rw [decide_eq_false h]
    by_cases h2 : j < i
    · rw [decide_eq_true h2]; exact .inr (.inl ⟨h2, rfl⟩)
    · rw [decide_eq_false h2]; exact .inr (.inr ⟨by omega, rfl⟩)
theorem allQ_cons {d : D} {l : List D} (h : allQ (d :: l) = true) : isQ d = true ∧ allQ l = true := by
  simp only [allQ] at h
  cases q : isQ d with
  | true => rw [q] at h; exact ⟨rfl, h⟩
  | false => rw [q] at h; cases h
mutual
theorem cmpX_eq : ∀ (x y : D), isQ x = true → isQ y = true → cmpX x y = .eq → x = y
  | .int i, .int j, _, _, h => by
    rcases cmpI_cases i j with ⟨_, e⟩ | ⟨_, e⟩ | ⟨e, _⟩
    · simp only [cmpX] at h; rw [e] at h; cases h
    · simp only [cmpX] at h; rw [e] at h; cases h
    · rw [e]
  | .int _, .tup _, _, _, h => nomatch h
  | .tup _, .int _, _, _, h => nomatch h
  | .tup l, .tup k, h1, h2, h => by
    rw [cmpL_eq l k h1 h2 h]
  | .int _, .non, _, q, _ => nomatch q
  | .int _, .bl _, _, q, _ => nomatch q
  | .int _, .str _, _, q, _ => nomatch q
  | .int _, .lst _, _, q, _ => nomatch q
  | .int _, .bor _, _, q, _ => nomatch q
  | .int _, .dct _ _, _, q, _ => nomatch q
  | .int _, .bdc _ _, _, q, _ => nomatch q
  | .tup _, .non, _, q, _ => nomatch q
  | .tup _, .bl _, _, q, _ => nomatch q
  | .tup _, .str _, _, q, _ => nomatch q
  | .tup _, .lst _, _, q, _ => nomatch q
  | .tup _, .bor _, _, q, _ => nomatch q
  | .tup _, .dct _ _, _, q, _ => nomatch q
  | .tup _, .bdc _ _, _, q, _ => nomatch q
  | .non, _, q, _, _ => nomatch q
  | .bl _, _, q, _, _ => nomatch q
  | .str _, _, q, _, _ => nomatch q
  | .lst _, _, q, _, _ => nomatch q
  | .bor _, _, q, _, _ => nomatch q
  | .dct _ _, _, q, _, _ => nomatch q
  | .bdc _ _, _, q, _, _ => nomatch q
theorem cmpL_eq : ∀ (l k : List D), allQ l = true → allQ k = true → cmpL l k = .eq → l = k
  | [], [], _, _, _ => rfl
  | [], _ :: _, _, _, h => nomatch h
  | _ :: _, [], _, _, h => nomatch h
  | x :: l, y :: k, h1, h2, h => by
    have a := allQ_cons h1
    have b := allQ_cons h2
    simp only [cmpL] at h
    cases q : cmpX x y with
    | eq => rw [q] at h; rw [cmpX_eq x y a.1 b.1 q, cmpL_eq l k a.2 b.2 h]
    | lt => rw [q] at h; cases h
    | gt => rw [q] at h; cases h
end
mutual
theorem cmpX_self : ∀ (x : D), isQ x = true → cmpX x x = .eq
  | .int i, _ => by
    rcases cmpI_cases i i with ⟨h, _⟩ | ⟨h, _⟩ | ⟨_, e⟩
    · omega
    · omega
    · exact e
  | .tup l, h => cmpL_self l h
  | .non, q => nomatch q
  | .bl _, q => nomatch q
  | .str _, q => nomatch q
  | .lst _, q => nomatch q
  | .bor _, q => nomatch q
  | .dct _ _, q => nomatch q
  | .bdc _ _, q => nomatch q
theorem cmpL_self : ∀ (l : List D), allQ l = true → cmpL l l = .eq
  | [], _ => rfl
  | x :: l, h => by
    have a := allQ_cons h
    simp only [cmpL, cmpX_self x a.1]
    exact cmpL_self l a.2
end
mutual
theorem cmpX_swap : ∀ (x y : D), isQ x = true → isQ y = true → cmpX y x = (cmpX x y).swap
  | .int i, .int j, _, _ => by
    show cmpI j i = (cmpI i j).swap
    rcases cmpI_cases i j with ⟨h, e⟩ | ⟨h, e⟩ | ⟨h, e⟩ <;> rcases cmpI_cases j i with ⟨h2, e2⟩ | ⟨h2, e2⟩ | ⟨h2, e2⟩ <;> first | omega | (rw [e, e2]; rfl)
  | .int _, .tup _, _, _ => rfl
  | .tup _, .int _, _, _ => rfl
  | .tup l, .tup k, h1, h2 => cmpL_swap l k h1 h2
  | .int _, .non, _, q => nomatch q
  | .int _, .bl _, _, q => nomatch q
  | .int _, .str _, _, q => nomatch q
  | .int _, .lst _, _, q => nomatch q
  | .int _, .bor _, _, q => nomatch q
  | .int _, .dct _ _, _, q => nomatch q
  | .int _, .bdc _ _, _, q => nomatch q
  | .tup _, .non, _, q => nomatch q
  | .tup _, .bl _, _, q => nomatch q
  | .tup _, .str _, _, q => nomatch q
  | .tup _, .lst _, _, q => nomatch q
  | .tup _, .bor _, _, q => nomatch q
  | .tup _, .dct _ _, _, q => nomatch q
  | .tup _, .bdc _ _, _, q => nomatch q
  | .non, _, q, _ => nomatch q
  | .bl _, _, q, _ => nomatch q
  | .str _, _, q, _ => nomatch q
  | .lst _, _, q, _ => nomatch q
  | .bor _, _, q, _ => nomatch q
  | .dct _ _, _, q, _ => nomatch q
  | .bdc _ _, _, q, _ => nomatch q
theorem cmpL_swap : ∀ (l k : List D), allQ l = true → allQ k = true → cmpL k l = (cmpL l k).swap
  | [], [], _, _ => rfl
  | [], _ :: _, _, _ => rfl
  | _ :: _, [], _, _ => rfl
  | x :: l, y :: k, h1, h2 => by
    have a := allQ_cons h1
    have b := allQ_cons h2
    have s := cmpX_swap x y a.1 b.1
    simp only [cmpL]
    cases q : cmpX x y with
    | eq => rw [q] at s; rw [s]; exact cmpL_swap l k a.2 b.2
    | lt => rw [q] at s; rw [s]; rfl
    | gt => rw [q] at s; rw [s]; rfl
end
mutual
theorem cmpX_tr : ∀ (x y z : D), isQ x = true → isQ y = true → isQ z = true → cmpX x y = .lt → cmpX y z = .lt → cmpX x z = .lt
  | .int i, .int j, .int k, _, _, _, h1, h2 => by
    have h1 : cmpI i j = .lt := h1
    have h2 : cmpI j k = .lt := h2
    show cmpI i k = .lt
    rcases cmpI_cases i j with ⟨a, e⟩ | ⟨a, e⟩ | ⟨a, e⟩ <;> rcases cmpI_cases j k with ⟨b, e2⟩ | ⟨b, e2⟩ | ⟨b, e2⟩ <;> rcases cmpI_cases i k with ⟨c, e3⟩ | ⟨c, e3⟩ | ⟨c, e3⟩ <;> first | exact e3 | omega | exact absurd (e.symm.trans h1) (by decide) | exact absurd (e2.symm.trans h2) (by decide)
  | .int _, .int _, .tup _, _, _, _, _, _ => rfl
  | .int _, .tup _, .tup _, _, _, _, _, _ => rfl
  | .int _, .tup _, .int _, _, _, _, _, h => nomatch h
  | .tup _, .int _, _, _, _, _, h, _ => nomatch h
  | .tup _, .tup _, .int _, _, _, _, _, h => nomatch h
  | .tup a, .tup b, .tup c, p, q, r, h1, h2 => cmpL_tr a b c p q r h1 h2
  | .int _, .non, _, _, q, _, _, _ => nomatch q
  | .int _, .bl _, _, _, q, _, _, _ => nomatch q
  | .int _, .str _, _, _, q, _, _, _ => nomatch q
  | .int _, .lst _, _, _, q, _, _, _ => nomatch q
  | .int _, .bor _, _, _, q, _, _, _ => nomatch q
  | .int _, .dct _ _, _, _, q, _, _, _ => nomatch q
  | .int _, .bdc _ _, _, _, q, _, _, _ => nomatch q
  | .int _, .int _, .non, _, _, q, _, _ => nomatch q
  | .int _, .int _, .bl _, _, _, q, _, _ => nomatch q
  | .int _, .int _, .str _, _, _, q, _, _ => nomatch q
  | .int _, .int _, .lst _, _, _, q, _, _ => nomatch q
  | .int _, .int _, .bor _, _, _, q, _, _ => nomatch q
  | .int _, .int _, .dct _ _, _, _, q, _, _ => nomatch q
  | .int _, .int _, .bdc _ _, _, _, q, _, _ => nomatch q
  | .int _, .tup _, .non, _, _, q, _, _ => nomatch q
  | .int _, .tup _, .bl _, _, _, q, _, _ => nomatch q
  | .int _, .tup _, .str _, _, _, q, _, _ => nomatch q
  | .int _, .tup _, .lst _, _, _, q, _, _ => nomatch q
  | .int _, .tup _, .bor _, _, _, q, _, _ => nomatch q
  | .int _, .tup _, .dct _ _, _, _, q, _, _ => nomatch q
  | .int _, .tup _, .bdc _ _, _, _, q, _, _ => nomatch q
  | .tup _, .tup _, .non, _, _, q, _, _ => nomatch q
  | .tup _, .tup _, .bl _, _, _, q, _, _ => nomatch q
  | .tup _, .tup _, .str _, _, _, q, _, _ => nomatch q
  | .tup _, .tup _, .lst _, _, _, q, _, _ => nomatch q
  | .tup _, .tup _, .bor _, _, _, q, _, _ => nomatch q
  | .tup _, .tup _, .dct _ _, _, _, q, _, _ => nomatch q
  | .tup _, .tup _, .bdc _ _, _, _, q, _, _ => nomatch q
  | .tup _, .non, _, _, q, _, _, _ => nomatch q
  | .tup _, .bl _, _, _, q, _, _, _ => nomatch q
  | .tup _, .str _, _, _, q, _, _, _ => nomatch q
  | .tup _, .lst _, _, _, q, _, _, _ => nomatch q
  | .tup _, .bor _, _, _, q, _, _, _ => nomatch q
  | .tup _, .dct _ _, _, _, q, _, _, _ => nomatch q
  | .tup _, .bdc _ _, _, _, q, _, _, _ => nomatch q
  | .non, _, _, q, _, _, _, _ => nomatch q
  | .bl _, _, _, q, _, _, _, _ => nomatch q
  | .str _, _, _, q, _, _, _, _ => nomatch q
  | .lst _, _, _, q, _, _, _, _ => nomatch q
  | .bor _, _, _, q, _, _, _, _ => nomatch q
  | .dct _ _, _, _, q, _, _, _, _ => nomatch q
  | .bdc _ _, _, _, q, _, _, _, _ => nomatch q
theorem cmpL_tr : ∀ (a b c : List D), allQ a = true → allQ b = true → allQ c = true → cmpL a b = .lt → cmpL b c = .lt → cmpL a c = .lt
  | [], [], _, _, _, _, h, _ => nomatch h
  | [], _ :: _, [], _, _, _, _, h => nomatch h
  | [], _ :: _, _ :: _, _, _, _, _, _ => rfl
  | _ :: _, [], _, _, _, _, h, _ => nomatch h
  | _ :: _, _ :: _, [], _, _, _, _, h => nomatch h
  | x :: a, y :: b, z :: c, p, q, r, h1, h2 => by
    have p := allQ_cons p
    have q := allQ_cons q
    have r := allQ_cons r
    simp only [cmpL] at h1 h2 ⊢
    cases e1 : cmpX x y with
    | eq =>
      have e := cmpX_eq x y p.1 q.1 e1
      subst e
      rw [e1] at h1
      cases e2 : cmpX x z with
      | eq => rw [e2] at h2; exact cmpL_tr a b c p.2 q.2 r.2 h1 h2
      | lt => rfl
      | gt => rw [e2] at h2; cases h2
    | lt =>
      cases e2 : cmpX y z with
      | eq =>
        have e := cmpX_eq y z q.1 r.1 e2
        subst e
        rw [e1]
      | lt => rw [cmpX_tr x y z p.1 q.1 r.1 e1 e2]
      | gt => rw [e2] at h2; cases h2
    | gt => rw [e1] at h1; cases h1
end
/-- a key of a value, always an int or a tuple of such -/
theorem swoX {α : Type} (k : α → D) (hk : ∀ v, isQ (k v) = true) : SrtO.Swo fun v u => ltX (k v) (k u) := by
  have lt_iff : ∀ x y, ltX x y = true ↔ cmpX x y = .lt := fun x y => by unfold ltX; cases cmpX x y <;> simp
  refine ⟨fun x y h => ?_, fun x y z h1 h2 => ?_⟩
  · have h := (lt_iff _ _).mp h
    have s := cmpX_swap (k x) (k y) (hk x) (hk y)
    rw [h] at s
    unfold ltX; rw [s] <;> rfl
  · rw [Bool.eq_false_iff] at h1 h2 ⊢
    intro h
    have h := (lt_iff _ _).mp h
    cases e1 : cmpX (k y) (k x) with
    | lt => exact h1 ((lt_iff _ _).mpr e1)
    | eq =>
      have e := cmpX_eq _ _ (hk y) (hk x) e1
      rw [← e] at h
      exact h2 ((lt_iff _ _).mpr h)
    | gt =>
      have s := cmpX_swap (k y) (k x) (hk y) (hk x)
      rw [e1] at s
      exact h2 ((lt_iff _ _).mpr (cmpX_tr _ _ _ (hk z) (hk x) (hk y) h s))
end M
namespace M
open PySem PySem.Spec PyProof.Rows L2 SeqAt

/-! ### values that are whole numbers and tuples of such -/
mutual
inductive DIs (h : Heap) : D → Value → Prop
  | int (i : Int) (t : Tok) : DIs h (.int i) (.int i t)
  | tup {a : Addr} {o : Obj} {vs : Array Value} {n : Nat} {l : List D} : h.get? a = some o → o.cls = .type "tuple" → o.data = .seq vs n → DIsL h l vs.toList → DIs h (.tup l) (.ref a)
inductive DIsL (h : Heap) : List D → List Value → Prop
  | nil : DIsL h [] []
  | cons {d : D} {l : List D} {v : Value} {vs : List Value} : DIs h d v → DIsL h l vs → DIsL h (d :: l) (v :: vs)
end
mutual
theorem DIs.nest {h : Heap} : ∀ {d : D} {v : Value}, DIs h d v → NestedIs h (toN d) v
  | _, _, .int i t => .int i t
  | _, _, .tup a b c r => .tup a b c (DIsL.nest r)
theorem DIsL.nest {h : Heap} : ∀ {l : List D} {vs : List Value}, DIsL h l vs → NestedAll h (toNL l) vs
  | _, _, .nil => .nil
  | _, _, .cons r s => .cons (DIs.nest r) (DIsL.nest s)
end
mutual
theorem DIs.q {h : Heap} : ∀ {d : D} {v : Value}, DIs h d v → isQ d = true
  | _, _, .int _ _ => rfl
  | _, _, .tup _ _ _ r => DIsL.q r
theorem DIsL.q {h : Heap} : ∀ {l : List D} {vs : List Value}, DIsL h l vs → allQ l = true
  | _, _, .nil => rfl
  | _, _, .cons (d := d) r s => by simp only [allQ, DIs.q r]; exact DIsL.q s
end
mutual
theorem DIs.keep {h h' : Heap} (k : ∀ a o, h.get? a = some o → o.cls = .type "tuple" → h'.get? a = some o) : ∀ {d : D} {v : Value}, DIs h d v → DIs h' d v
  | _, _, .int i t => .int i t
  | _, _, .tup a b c r => .tup (k _ _ a b) b c (DIsL.keep k r)
theorem DIsL.keep {h h' : Heap} (k : ∀ a o, h.get? a = some o → o.cls = .type "tuple" → h'.get? a = some o) : ∀ {l : List D} {vs : List Value}, DIsL h l vs → DIsL h' l vs
  | _, _, .nil => .nil
  | _, _, .cons r s => .cons (DIs.keep k r) (DIsL.keep k s)
end
theorem DIsL.length {h : Heap} : ∀ {l : List D} {vs : List Value}, DIsL h l vs → l.length = vs.length
  | _, _, .nil => rfl
  | _, _, .cons _ s => congrArg (· + 1) s.length
theorem DIsL.mem {h : Heap} : ∀ {l : List D} {vs : List Value}, DIsL h l vs → ∀ v ∈ vs, ∃ d ∈ l, DIs h d v
  | _, _, .nil, _, hv => nomatch hv
  | _, _, .cons r s, v, hv => by
    rcases List.mem_cons.mp hv with rfl | hv
    · exact ⟨_, List.mem_cons_self, r⟩
    · obtain ⟨d, a, b⟩ := s.mem v hv
      exact ⟨d, List.mem_cons_of_mem _ a, b⟩
mutual
theorem DIs.inj {h : Heap} : ∀ {d e : D} {v : Value}, DIs h d v → DIs h e v → d = e
  | _, _, _, .int _ _, .int _ _ => rfl
  | _, _, _, .tup a b c r, .tup a' b' c' r' => by
    rw [a] at a'; cases a'
    rw [c] at c'; cases c'
    rw [DIsL.inj r r']
theorem DIsL.inj {h : Heap} : ∀ {l k : List D} {vs : List Value}, DIsL h l vs → DIsL h k vs → l = k
  | _, _, _, .nil, .nil => rfl
  | _, _, _, .cons r s, .cons r' s' => by rw [DIs.inj r r', DIsL.inj s s']
end
/-! ### == and < of such -/
theorem dec_cmp (i j : Int) : decide (i = j) = (match cmpI i j with | .eq => true | _ => false) := by
  rcases cmpI_cases i j with ⟨h, e⟩ | ⟨h, e⟩ | ⟨h, e⟩
  · rw [e]; exact decide_eq_false (by omega)
  · rw [e]; exact decide_eq_false (by omega)
  · rw [e]; exact decide_eq_true h
theorem lt_cmp (i j : Int) : decide (i < j) = (match cmpI i j with | .lt => true | _ => false) := by
  rcases cmpI_cases i j with ⟨h, e⟩ | ⟨h, e⟩ | ⟨h, e⟩
  · rw [e]; exact decide_eq_true h
  · rw [e]; exact decide_eq_false (by omega)
  · rw [e]; exact decide_eq_false (by omega)
def eqXL (l k : List D) : Bool := match cmpL l k with | .eq => true | _ => false
def ltXL (l k : List D) : Bool := match cmpL l k with | .lt => true | _ => false
theorem eqXL_cons (x y : D) (l k : List D) : eqXL (x :: l) (y :: k) = (eqX x y && eqXL l k) := by
  unfold eqXL eqX
  simp only [cmpL]
  cases cmpX x y <;> rfl
theorem ltXL_cons (x y : D) (l k : List D) : ltXL (x :: l) (y :: k) = (match eqX x y with | true => ltXL l k | false => ltX x y) := by
  unfold ltXL eqX ltX
  simp only [cmpL]
  cases cmpX x y <;> rfl
mutual
theorem beq_toN : ∀ (x y : D), isQ x = true → isQ y = true → NestedKey.beq (toN x) (toN y) = eqX x y
  | .int i, .int j, _, _ => by simp only [toN, NestedKey.beq]; exact dec_cmp i j
  | .int _, .tup _, _, _ => by simp only [toN, NestedKey.beq]; rfl
  | .tup _, .int _, _, _ => by simp only [toN, NestedKey.beq]; rfl
  | .tup l, .tup k, h1, h2 => by simp only [toN, NestedKey.beq]; exact beqAll_toN l k h1 h2
  | .int _, .non, _, q => nomatch q
  | .int _, .bl _, _, q => nomatch q
  | .int _, .str _, _, q => nomatch q
  | .int _, .lst _, _, q => nomatch q
  | .int _, .bor _, _, q => nomatch q
  | .int _, .dct _ _, _, q => nomatch q
  | .int _, .bdc _ _, _, q => nomatch q
  | .tup _, .non, _, q => nomatch q
  | .tup _, .bl _, _, q => nomatch q
  | .tup _, .str _, _, q => nomatch q
  | .tup _, .lst _, _, q => nomatch q
  | .tup _, .bor _, _, q => nomatch q
  | .tup _, .dct _ _, _, q => nomatch q
  | .tup _, .bdc _ _, _, q => nomatch q
  | .non, _, q, _ => nomatch q
  | .bl _, _, q, _ => nomatch q
  | .str _, _, q, _ => nomatch q
  | .lst _, _, q, _ => nomatch q
  | .bor _, _, q, _ => nomatch q
  | .dct _ _, _, q, _ => nomatch q
  | .bdc _ _, _, q, _ => nomatch q
theorem beqAll_toN : ∀ (l k : List D), allQ l = true → allQ k = true → NestedKey.beqAll (toNL l) (toNL k) = eqXL l k
  | [], [], _, _ => by simp only [toNL, NestedKey.beqAll]; rfl
  | [], _ :: _, _, _ => by simp only [toNL, NestedKey.beqAll]; rfl
  | _ :: _, [], _, _ => by simp only [toNL, NestedKey.beqAll]; rfl
  | x :: l, y :: k, h1, h2 => by
    have a := allQ_cons h1
    have b := allQ_cons h2
    simp only [toNL, NestedKey.beqAll]
    rw [beq_toN x y a.1 b.1, beqAll_toN l k a.2 b.2, eqXL_cons]
end
theorem eqAt_d {x y : D} {A : Around} {s : Shared} {a b : Value} (ra : DIs s.heap x a) (rb : DIs s.heap y b) (hu : A.units + min (toN x).depth (toN y).depth < cLine) : EqAt A s a b (eqX x y) := by
  rw [← beq_toN x y ra.q rb.q]
  exact eqAt_key _ _ A s a b ra.nest rb.nest hu

mutual
def okC : D → D → Bool
  | .int _, d => (match d with | .int _ => true | _ => false)
  | .tup l, d => (match d with | .tup k => okCL l k | _ => false)
  | _, _ => false
def okCL : List D → List D → Bool
  | [], _ => true
  | x :: l, k => (match k with | [] => true | y :: k => (match okC x y with | true => okCL l k | false => false))
end
theorem okCL_cons {x y : D} {l k : List D} (h : okCL (x :: l) (y :: k) = true) : okC x y = true ∧ okCL l k = true := by
  simp only [okCL] at h
  cases q : okC x y with
  | true => rw [q] at h; exact ⟨rfl, h⟩
  | false => rw [q] at h; cases h
abbrev eAt (l k : List D) (j : Nat) : Bool := eqX (l.getD j .non) (k.getD j .non)
abbrev rAt (l k : List D) (j : Nat) : Bool := ltX (l.getD j .non) (k.getD j .non)
theorem firstLt_map (e r : Nat → Bool) (fin : Bool) (f : Nat → Nat) : ∀ l : List Nat, firstLt e r fin (l.map f) = firstLt (fun j => e (f j)) (fun j => r (f j)) fin l
  | [] => rfl
  | j :: l => by simp only [List.map_cons, firstLt, firstLt_map e r fin f l]
theorem firstLt_ltXL : ∀ l k : List D, firstLt (eAt l k) (rAt l k) (decide (l.length < k.length)) (List.range (min l.length k.length)) = ltXL l k
  | [], [] => rfl
  | [], _ :: _ => by simp [firstLt, ltXL, cmpL]
  | _ :: _, [] => by simp [firstLt, ltXL, cmpL]
  | x :: l, y :: k => by
    have ih := firstLt_ltXL l k
    have e1 : min (x :: l).length (y :: k).length = min l.length k.length + 1 := by simp only [List.length_cons]; omega
    have e2 : decide ((x :: l).length < (y :: k).length) = decide (l.length < k.length) := by simp
    rw [e1, e2, List.range_succ_eq_map, firstLt, firstLt_map, ltXL_cons]
    show (if eqX x y = true then firstLt (eAt l k) (rAt l k) _ _ else ltX x y) = _
    rw [ih]
    cases eqX x y <;> rfl
mutual
theorem rcLt : ∀ (x y : D) (A : Around) (s : Shared) (a b : Value), DIs s.heap x a → DIs s.heap y b → okC x y = true → A.units + min (toN x).depth (toN y).depth < cLine → RcLt A s a b (ltX x y)
  | .int i, .int j, A, s, _, _, ra, rb, _, _ => by
    cases ra; cases rb
    intro prog w E Q h
    have e : ltX (.int i) (.int j) = decide (i < j) := (lt_cmp i j).symm
    rw [e] at h
    exact PyProof.Rows.lt_int h
  | .tup l, .tup k, A, s, _, _, ra, rb, ok, hu => by
    cases ra with
    | tup h1 h2 h3 h4 =>
      cases rb with
      | tup k1 k2 k3 k4 =>
        rename_i a o vs n b o' ws m
        have n1 : vs.size = l.length := by have := h4.length; simpa using this.symm
        have n2 : ws.size = k.length := by have := k4.length; simpa using this.symm
        simp only [toN, NestedKey.depth] at hu
        have key := RcLt.tuples (A := A) (s := s) (e := eAt l k) (r := rAt l k) ⟨_, h1, h2, _, h3⟩ ⟨_, k1, k2, _, k3⟩ (room_here hu)
          (fun j j1 j2 => by
            have := eqAt_ds l k A.in1 s vs.toList ws.toList h4 k4 (room_in hu) j (by simpa using j1) (by simpa using j2)
            simpa using this)
          (fun j j1 j2 _ => by
            have := rcLts l k A.in1 s vs.toList ws.toList h4 k4 ok (room_in hu) j (by simpa using j1) (by simpa using j2)
            simpa using this)
        rw [n1, n2, firstLt_ltXL] at key
        exact key
  | .int _, .tup _, _, _, _, _, _, _, ok, _ => nomatch ok
  | .tup _, .int _, _, _, _, _, _, _, ok, _ => nomatch ok
  | .int _, .non, _, _, _, _, _, _, q, _ => nomatch q
  | .int _, .bl _, _, _, _, _, _, _, q, _ => nomatch q
  | .int _, .str _, _, _, _, _, _, _, q, _ => nomatch q
  | .int _, .lst _, _, _, _, _, _, _, q, _ => nomatch q
  | .int _, .bor _, _, _, _, _, _, _, q, _ => nomatch q
  | .int _, .dct _ _, _, _, _, _, _, _, q, _ => nomatch q
  | .int _, .bdc _ _, _, _, _, _, _, _, q, _ => nomatch q
  | .tup _, .non, _, _, _, _, _, _, q, _ => nomatch q
  | .tup _, .bl _, _, _, _, _, _, _, q, _ => nomatch q
  | .tup _, .str _, _, _, _, _, _, _, q, _ => nomatch q
  | .tup _, .lst _, _, _, _, _, _, _, q, _ => nomatch q
  | .tup _, .bor _, _, _, _, _, _, _, q, _ => nomatch q
  | .tup _, .dct _ _, _, _, _, _, _, _, q, _ => nomatch q
  | .tup _, .bdc _ _, _, _, _, _, _, _, q, _ => nomatch q
  | .non, _, _, _, _, _, _, _, q, _ => nomatch q
  | .bl _, _, _, _, _, _, _, _, q, _ => nomatch q
  | .str _, _, _, _, _, _, _, _, q, _ => nomatch q
  | .lst _, _, _, _, _, _, _, _, q, _ => nomatch q
  | .bor _, _, _, _, _, _, _, _, q, _ => nomatch q
  | .dct _ _, _, _, _, _, _, _, _, q, _ => nomatch q
  | .bdc _ _, _, _, _, _, _, _, _, q, _ => nomatch q
theorem eqAt_ds : ∀ (l k : List D) (A : Around) (s : Shared) (vs ws : List Value), DIsL s.heap l vs → DIsL s.heap k ws → A.units + min (NestedKey.depthAll (toNL l)) (NestedKey.depthAll (toNL k)) < cLine →
    ∀ j (h1 : j < vs.length) (h2 : j < ws.length), EqAt A s vs[j] ws[j] (eAt l k j)
  | [], _, _, _, _, _, ra, _, _, j, h1, _ => by cases ra; exact absurd h1 (Nat.not_lt_zero _)
  | _ :: _, [], _, _, _, _, _, rb, _, j, _, h2 => by cases rb; exact absurd h2 (Nat.not_lt_zero _)
  | x :: l, y :: k, A, s, _, _, ra, rb, hu, j, h1, h2 => by
    cases ra with
    | cons r rs =>
      cases rb with
      | cons r' rs' =>
        simp only [toNL, NestedKey.depthAll] at hu
        cases j with
        | zero => exact eqAt_d r r' (room_head hu)
        | succ j => exact eqAt_ds l k A s _ _ rs rs' (room_tail hu) j (Nat.lt_of_succ_lt_succ h1) (Nat.lt_of_succ_lt_succ h2)
theorem rcLts : ∀ (l k : List D) (A : Around) (s : Shared) (vs ws : List Value), DIsL s.heap l vs → DIsL s.heap k ws → okCL l k = true → A.units + min (NestedKey.depthAll (toNL l)) (NestedKey.depthAll (toNL k)) < cLine →
    ∀ j (h1 : j < vs.length) (h2 : j < ws.length), RcLt A s vs[j] ws[j] (rAt l k j)
  | [], _, _, _, _, _, ra, _, _, _, j, h1, _ => by cases ra; exact absurd h1 (Nat.not_lt_zero _)
  | _ :: _, [], _, _, _, _, _, rb, _, _, j, _, h2 => by cases rb; exact absurd h2 (Nat.not_lt_zero _)
  | x :: l, y :: k, A, s, _, _, ra, rb, ok, hu, j, h1, h2 => by
    cases ra with
    | cons r rs =>
      cases rb with
      | cons r' rs' =>
        simp only [toNL, NestedKey.depthAll] at hu
        have o := okCL_cons ok
        cases j with
        | zero => exact rcLt x y A s _ _ r r' o.1 (room_head hu)
        | succ j => exact rcLts l k A s _ _ rs rs' o.2 (room_tail hu) j (Nat.lt_of_succ_lt_succ h1) (Nat.lt_of_succ_lt_succ h2)
end
end M
namespace M
open PySem PySem.Spec PyProof.Rows L2 SeqAt

/-! ### shapes -/
inductive Sh where
  | any | num | tup (l : List Sh)
mutual
def conf : Sh → D → Bool
  | .num, d => (match d with | .int _ => true | _ => false)
  | .tup ss, d => (match d with | .tup l => confL ss l | _ => false)
  | .any, _ => false
def confL : List Sh → List D → Bool
  | [], l => (match l with | [] => true | _ :: _ => false)
  | s :: ss, l => (match l with | [] => true | d :: l => (match conf s d with | true => confL ss l | false => false))
end
mutual
def shOf : D → Sh
  | .int _ => .num
  | .tup l => .tup (shOfL l)
  | .non => .any | .bl _ => .any | .str _ => .any | .lst _ => .any | .bor _ => .any | .dct _ _ => .any | .bdc _ _ => .any
def shOfL : List D → List Sh
  | [] => []
  | d :: l => shOf d :: shOfL l
end
mutual
def mrg : Sh → Sh → Sh
  | .any, t => t
  | .num, _ => .num
  | .tup a, t => (match t with | .tup b => .tup (mrgL a b) | _ => .tup a)
def mrgL : List Sh → List Sh → List Sh
  | [], b => b
  | x :: a, b => (match b with | [] => x :: a | y :: b => mrg x y :: mrgL a b)
end
def shAll : Sh → List D → Sh
  | s, [] => s
  | s, d :: l => shAll (mrg s (shOf d)) l
def confAll (s : Sh) : List D → Bool
  | [] => true
  | d :: l => (match conf s d with | true => (match lowD d 20 with | true => confAll s l | false => false) | false => false)
mutual
theorem okC_conf : ∀ (s : Sh) (x y : D), conf s x = true → conf s y = true → okC x y = true
  | .num, .int _, .int _, _, _ => rfl
  | .tup ss, .tup l, .tup k, h1, h2 => okCL_conf ss l k h1 h2
  | .any, _, _, h, _ => nomatch h
  | .num, .int _, .tup _, _, h => nomatch h
  | .num, .int _, .non, _, h => nomatch h
  | .num, .int _, .bl _, _, h => nomatch h
  | .num, .int _, .str _, _, h => nomatch h
  | .num, .int _, .lst _, _, h => nomatch h
  | .num, .int _, .bor _, _, h => nomatch h
  | .num, .int _, .dct _ _, _, h => nomatch h
  | .num, .int _, .bdc _ _, _, h => nomatch h
  | .num, .tup _, _, h, _ => nomatch h
  | .num, .non, _, h, _ => nomatch h
  | .num, .bl _, _, h, _ => nomatch h
  | .num, .str _, _, h, _ => nomatch h
  | .num, .lst _, _, h, _ => nomatch h
  | .num, .bor _, _, h, _ => nomatch h
  | .num, .dct _ _, _, h, _ => nomatch h
  | .num, .bdc _ _, _, h, _ => nomatch h
  | .tup _, .tup _, .int _, _, h => nomatch h
  | .tup _, .tup _, .non, _, h => nomatch h
  | .tup _, .tup _, .bl _, _, h => nomatch h
  | .tup _, .tup _, .str _, _, h => nomatch h
  | .tup _, .tup _, .lst _, _, h => nomatch h
  | .tup _, .tup _, .bor _, _, h => nomatch h
  | .tup _, .tup _, .dct _ _, _, h => nomatch h
  | .tup _, .tup _, .bdc _ _, _, h => nomatch h
  | .tup _, .int _, _, h, _ => nomatch h
  | .tup _, .non, _, h, _ => nomatch h
  | .tup _, .bl _, _, h, _ => nomatch h
  | .tup _, .str _, _, h, _ => nomatch h
  | .tup _, .lst _, _, h, _ => nomatch h
  | .tup _, .bor _, _, h, _ => nomatch h
  | .tup _, .dct _ _, _, h, _ => nomatch h
  | .tup _, .bdc _ _, _, h, _ => nomatch h
theorem okCL_conf : ∀ (ss : List Sh) (l k : List D), confL ss l = true → confL ss k = true → okCL l k = true
  | _, [], _, _, _ => rfl
  | _, _ :: _, [], _, _ => rfl
  | [], _ :: _, _ :: _, h, _ => nomatch h
  | s :: ss, x :: l, y :: k, h1, h2 => by
    simp only [confL] at h1 h2
    simp only [okCL]
    cases q1 : conf s x with
    | false => rw [q1] at h1; cases h1
    | true =>
      cases q2 : conf s y with
      | false => rw [q2] at h2; cases h2
      | true =>
        rw [q1] at h1
        rw [q2] at h2
        rw [okC_conf s x y q1 q2]
        exact okCL_conf ss l k h1 h2
end
theorem confAll_mem {s : Sh} : ∀ {l : List D}, confAll s l = true → ∀ d ∈ l, conf s d = true ∧ lowD d 20 = true
  | [], _, _, h => nomatch h
  | x :: l, h, d, hd => by
    simp only [confAll] at h
    cases q : conf s x with
    | false => rw [q] at h; cases h
    | true =>
      rw [q] at h
      simp only at h
      cases q2 : lowD x 20 with
      | false => rw [q2] at h; cases h
      | true =>
        rw [q2] at h
        rcases List.mem_cons.mp hd with rfl | hd
        · exact ⟨q, q2⟩
        · exact confAll_mem h d hd
mutual
theorem depN : ∀ (d : D), (toN d).depth ≤ (toPy d).depth
  | .int _ => Nat.zero_le _
  | .tup l => by
    simp only [toN, toPy, NestedKey.depth, PyData.depth]
    exact Nat.succ_le_succ (depNL l)
  | .non => Nat.zero_le _
  | .bl _ => Nat.zero_le _
  | .str _ => Nat.zero_le _
  | .lst _ => Nat.zero_le _
  | .bor _ => Nat.zero_le _
  | .dct _ _ => Nat.zero_le _
  | .bdc _ _ => Nat.zero_le _
theorem depNL : ∀ (l : List D), NestedKey.depthAll (toNL l) ≤ PyData.depthAll (toPyL l)
  | [] => Nat.zero_le _
  | d :: l => by
    simp only [toNL, toPyL, NestedKey.depthAll, PyData.depthAll]
    have a := depN d
    have b := depNL l
    omega
end
/-! ### the sort's comparisons -/
section
variable {prog : Program} {w : World} {A : Around} {E : Value → Shared → Prop} {s : Shared}
theorem one_lt {a b : Value} {k : Bool} (R : RcLt A s a b k) : wpAny (model prog w) A (oneLt' false a b) (fun r s' => s' = s ∧ r = k) E s := by
  rw [oneLt'_eq]
  simp only [Bool.false_eq_true, if_false]
  exact wpAny_bind (R prog w E _ (wpAny_truthy_bool ⟨rfl, rfl⟩))
theorem oneT_tup {l k : List D} {a b : Value} (ra : DIs s.heap (.tup l) a) (rb : DIs s.heap (.tup k) b) (ok : okC (.tup l) (.tup k) = true) (hu : A.units + min (toN (.tup l)).depth (toN (.tup k)).depth < cLine) :
    wpAny (model prog w) A (oneLt' true a b) (fun r s' => s' = s ∧ r = ltX (.tup l) (.tup k)) E s := by
  cases ra with
  | tup h1 h2 h3 h4 =>
    cases rb with
    | tup k1 k2 k3 k4 =>
      rename_i a o vs n b o' ws m
      have n1 : vs.size = l.length := by have := h4.length; simpa using this.symm
      have n2 : ws.size = k.length := by have := k4.length; simpa using this.symm
      simp only [toN, NestedKey.depth] at hu
      obtain ⟨oc, od, oda, os⟩ := o
      obtain ⟨oc', od', oda', os'⟩ := o'
      simp only at h2 h3 k2 k3
      subst h2 h3 k2 k3
      rw [oneLt'_eq]
      simp only [if_true]
      refine wpAny_bind (wpAny_cRoomFor (room_here hu) ?_)
      refine wpAny_bind (wpAny_callSpecialIfBound?_slot ⟨_, h1, rfl⟩ PySem.F.slot_tuple_lt (call_meets PySem.F.slot_tuple_lt ⟨_, h1, rfl⟩ PySem.F.entry_tuple_lt (PySem.F.args_tuple_lt_2 _ _)
        (tuple_ltAt a b vs ws n m od od' os os' (eAt l k) (rAt l k)) ⟨h1, k1, fun j j1 j2 => ?_, fun j j1 j2 _ => ?_, ?_⟩))
      · have := eqAt_ds l k A.in1 s vs.toList ws.toList h4 k4 (room_in hu) j (by simpa using j1) (by simpa using j2)
        simpa using this
      · have := rcLts l k A.in1 s vs.toList ws.toList h4 k4 ok (room_in hu) j (by simpa using j1) (by simpa using j2)
        simpa using this
      · rw [n1, n2, firstLt_ltXL]
        exact wpAny_truthy_bool ⟨rfl, rfl⟩
theorem kat_of {b : Bool} : ∀ (l k : List D) (vs ws : List Value) (i : Nat) (fin : Bool), DIsL s.heap l vs → DIsL s.heap k ws → okCL l k = true → A.units + min (NestedKey.depthAll (toNL l)) (NestedKey.depthAll (toNL k)) < cLine →
    ((b && i == 0) = true → ∀ x l' y k', l = x :: l' → k = y :: k' → ∃ n m, x = .int n ∧ y = .int m) → fin = decide (l.length < k.length) →
    W.KatLex prog w A b fin (fun r s' => s' = s ∧ r = ltXL l k) (vs.zip ws) i s
  | [], k, _, ws, i, fin, ra, rb, _, _, _, hf => by
    cases ra
    refine W.kat_nil ⟨rfl, ?_⟩
    rw [hf]
    cases k with
    | nil => rfl
    | cons y k => simp [ltXL, cmpL]
  | x :: l, [], _, _, i, fin, ra, rb, _, _, _, hf => by
    cases rb
    rw [List.zip_nil_right]
    refine W.kat_nil ⟨rfl, ?_⟩
    rw [hf]
    simp [ltXL, cmpL]
  | x :: l, y :: k, _, _, i, fin, ra, rb, ok, hu, hb, hf => by
    cases ra with
    | cons r rs =>
      cases rb with
      | cons r' rs' =>
        rename_i p vs q ws
        simp only [toNL, NestedKey.depthAll] at hu
        have o := okCL_cons ok
        rw [List.zip_cons_cons]
        refine W.kat_cons (eqAt_d r r' (room_head hu) prog w _ _ ?_)
        refine W.kat_go (fun e => ?_) (fun e => ?_)
        · refine W.kat_yes ?_
          have ih := kat_of (b := b) l k vs ws (i + 1) fin rs rs' o.2 (room_tail hu) (fun z => by simp at z) (by rw [hf]; simp)
          rw [ltXL_cons, e]
          exact ih
        · refine W.kat_no ?_
          rw [ltXL_cons, e]
          cases z : (b && i == 0) with
          | true =>
            obtain ⟨n, m, rfl, rfl⟩ := hb z _ _ _ _ rfl rfl
            cases r
            cases r'
            have e : ltX (.int n) (.int m) = decide (n < m) := (lt_cmp n m).symm
            rw [e]
            exact oneLt_int ⟨rfl, rfl⟩
          | false => exact one_lt (rcLt x y A s _ _ r r' o.1 (room_head hu))
theorem ltX_tup (l k : List D) : ltX (.tup l) (.tup k) = ltXL l k := rfl
def allHd (f : D → Bool) : List D → Bool
  | [] => true
  | d :: l => (match d with | .tup (x :: _) => (match f x with | true => allHd f l | false => false) | _ => false)
/-- values, their keys -/
structure Keyd (h : Heap) (vs : List Value) (k : Value → D) (sh : Sh) : Prop where
  is : ∀ v ∈ vs, DIs h (k v) v
  cf : ∀ v ∈ vs, conf sh (k v) = true
  low : ∀ v ∈ vs, (toN (k v)).depth ≤ 20
variable {vs : List Value} {k : Value → D} {sh : Sh}
theorem Keyd.ok (K : Keyd s.heap vs k sh) {v u : Value} (hv : v ∈ vs) (hu : u ∈ vs) : okC (k v) (k u) = true := okC_conf sh _ _ (K.cf v hv) (K.cf u hu)
theorem Keyd.room (K : Keyd s.heap vs k sh) (hA : A.units + 30 < cLine) {v u : Value} (hv : v ∈ vs) (hu : u ∈ vs) : A.units + min (toN (k v)).depth (toN (k u)).depth < cLine := by
  have := K.low v hv
  omega
theorem cmp_general (K : Keyd s.heap vs k sh) (hA : A.units + 30 < cLine) : SrtO.Cmp prog w A s general' (fun p => p.1 ∈ vs) (SrtO.lt2 fun v u => ltX (k v) (k u)) := fun p q hp hq =>
  one_lt (rcLt (k p.1) (k q.1) A s p.1 q.1 (K.is _ hp) (K.is _ hq) (K.ok hp hq) (K.room hA hp hq))
theorem cmp_one {ss : List Sh} (K : Keyd s.heap vs k (.tup ss)) (hA : A.units + 30 < cLine) : SrtO.Cmp prog w A s oneType' (fun p => p.1 ∈ vs) (SrtO.lt2 fun v u => ltX (k v) (k u)) := fun p q hp hq => by
  have i1 := K.is _ hp
  have i2 := K.is _ hq
  have c1 := K.cf _ hp
  have c2 := K.cf _ hq
  have ok := K.ok hp hq
  have rm := K.room hA hp hq
  show wpAny (model prog w) A (oneLt' true p.1 q.1) (fun r s' => s' = s ∧ r = ltX (k p.1) (k q.1)) (fun _ _ => False) s
  generalize k p.1 = x at *
  generalize k q.1 = y at *
  cases x with
  | tup l =>
    cases y with
    | tup m => exact oneT_tup i1 i2 ok rm
    | _ => cases c2
  | _ => cases c1
theorem cmp_ints (K : Keyd s.heap vs k .num) : SrtO.Cmp prog w A s oneType' (fun p => p.1 ∈ vs) (SrtO.lt2 fun v u => ltX (k v) (k u)) := fun p q hp hq => by
  have i1 := K.is _ hp
  have i2 := K.is _ hq
  have c1 := K.cf _ hp
  have c2 := K.cf _ hq
  show wpAny (model prog w) A (oneLt' true p.1 q.1) (fun r s' => s' = s ∧ r = ltX (k p.1) (k q.1)) (fun _ _ => False) s
  generalize p.1 = u at *
  generalize q.1 = v at *
  generalize k u = x at *
  generalize k v = y at *
  cases x with
  | int i =>
    cases y with
    | int j =>
      cases i1
      cases i2
      have e : ltX (.int i) (.int j) = decide (i < j) := (lt_cmp i j).symm
      rw [e]
      exact oneLt_int ⟨rfl, rfl⟩
    | _ => cases c2
  | _ => cases c1
theorem cmp_tups {s0 : Sh} {ss : List Sh} {b : Bool} (K : Keyd s.heap vs k (.tup (s0 :: ss))) (hb : b = true → s0 = .num) (hA : A.units + 30 < cLine) : SrtO.Cmp prog w A s (tuples' b) (fun p => p.1 ∈ vs) (SrtO.lt2 fun v u => ltX (k v) (k u)) := fun p q hp hq => by
  have i1 := K.is _ hp
  have i2 := K.is _ hq
  have c1 := K.cf _ hp
  have c2 := K.cf _ hq
  have ok := K.ok hp hq
  have rm := K.room hA hp hq
  show wpAny (model prog w) A (keyLt' (tuples' b) p.1 q.1) (fun r s' => s' = s ∧ r = ltX (k p.1) (k q.1)) (fun _ _ => False) s
  generalize p.1 = u at *
  generalize q.1 = v at *
  generalize k u = x at *
  generalize k v = y at *
  cases x with
  | tup l =>
    cases y with
    | tup m =>
      cases i1 with
      | tup h1 h2 h3 h4 =>
        cases i2 with
        | tup k1 k2 k3 k4 =>
          rename_i a o us n b' o' ws n'
          have n1 : us.size = l.length := by have := h4.length; simpa using this.symm
          have n2 : ws.size = m.length := by have := k4.length; simpa using this.symm
          simp only [toN, NestedKey.depth] at rm
          refine W.kat_lt h1 h3 k1 k3 (kat_of l m us.toList ws.toList 0 _ h4 k4 ok (by omega) (fun z x l' y m' e1 e2 => ?_) (by rw [n1, n2]))
          have hb' := hb (by simpa using z)
          subst hb' e1 e2
          simp only [conf, confL] at c1 c2
          cases x with
          | int i =>
            cases y with
            | int j => exact ⟨i, j, rfl, rfl⟩
            | _ => simp only at c2; cases c2
          | _ => simp only at c1; cases c1
    | _ => cases c2
  | _ => cases c1
end
end M
namespace M
open PySem PySem.Spec PyProof.Rows L2 SeqAt
section
variable {prog : Program} {w : World} {A : Around} {E : Value → Shared → Prop} {s : Shared} {k : Value → D} {sh : Sh}
def neT : D → Bool
  | .tup l => (match l with | [] => false | _ :: _ => true)
  | _ => false
theorem heads_of : ∀ (vs : List Value), (∀ v ∈ vs, DIs s.heap (k v) v ∧ ∃ x l, k v = .tup (x :: l)) → ∃ fs, W.KatTups s.heap vs fs ∧ fs.length = vs.length ∧ ∀ f ∈ fs, ∃ v ∈ vs, ∃ x l, k v = .tup (x :: l) ∧ DIs s.heap x f
  | [], _ => ⟨[], trivial, rfl, fun _ h => nomatch h⟩
  | v :: vs, h => by
    obtain ⟨fs, a, b, c⟩ := heads_of vs fun u hu => h u (List.mem_cons_of_mem _ hu)
    obtain ⟨i, x, l, e⟩ := h v List.mem_cons_self
    have i' := i
    rw [e] at i'
    cases i' with
    | tup h1 h2 h3 h4 =>
      rename_i p o us n
      have hus : us.toList ≠ [] := fun z => by rw [z] at h4; cases h4
      cases q : us.toList with
      | nil => exact absurd q hus
      | cons f r =>
        rw [q] at h4
        cases h4 with
        | cons r1 r2 =>
          have hf : us[0]? = some f := by rw [← Array.getElem?_toList, q]; rfl
          refine ⟨f :: fs, W.KatTups.cons h1 h2 h3 hf a, by simp [b], fun g hg => ?_⟩
          rcases List.mem_cons.mp hg with rfl | hg
          · exact ⟨_, List.mem_cons_self, x, l, e, r1⟩
          · obtain ⟨u, hu, r⟩ := c g hg
            exact ⟨u, List.mem_cons_of_mem _ hu, r⟩
theorem firsts_any : ∀ (vs : List Value) {Q : List (Option Value) → Shared → Prop}, (∀ v ∈ vs, ∃ l, DIs s.heap (.tup l) v ∧ k v = .tup l) → (∀ os, os.map Option.isSome = vs.map (fun v => neT (k v)) → Q os s) → wpAny (model prog w) A (vs.mapM firstOfTuple') Q E s
  | [], _, _, h => by rw [List.mapM_nil]; exact wpAny_pure (h [] rfl)
  | v :: vs, Q, hv, h => by
    obtain ⟨l, i, e⟩ := hv v List.mem_cons_self
    cases i with
    | tup h1 h2 h3 h4 =>
      rename_i p o us n
      rw [List.mapM_cons]
      refine wpAny_bind ?_
      rw [W.kas_first_eq]
      refine wpAny_bind (W.Looks.here (show W.Looks (model prog w) s.heap (typeOf (.ref p)) o.cls from (W.Looks.ld h1).andThen .now) ?_)
      rw [h2, if_neg (by first | decide | simp)]
      refine wpAny_bind (listItems_at h1 h3 (wpAny_pure ?_))
      refine wpAny_bind (firsts_any vs (fun u hu => hv u (List.mem_cons_of_mem _ hu)) fun os ho => wpAny_pure (h _ ?_))
      rw [List.map_cons, List.map_cons, ho]
      congr 1
      rw [e]
      have n1 : us.size = l.length := by have := h4.length; simpa using this.symm
      cases l with
      | nil =>
        have : us = #[] := by
          have : us.size = 0 := n1
          exact Array.eq_empty_of_size_eq_zero this
        subst this
        rfl
      | cons x l =>
        have hz : 0 < us.size := by rw [n1]; exact Nat.succ_pos _
        rw [Array.getElem?_eq_getElem hz]
        rfl
theorem kind_of {vs : List Value} (K : Keyd s.heap vs k sh) (h2 : 2 ≤ vs.length) : ∃ κ, (∀ (Q : SortKind → Shared → Prop) (E : Value → Shared → Prop), Q κ s → wpAny (model prog w) A (keyKind' vs.toArray) Q E s) ∧ (A.units + 30 < cLine → SrtO.Cmp prog w A s κ (fun p => p.1 ∈ vs) (SrtO.lt2 fun v u => ltX (k v) (k u))) := by
  obtain ⟨v0, hv0⟩ : ∃ v, v ∈ vs := by
    match vs, h2 with
    | v :: _, _ => exact ⟨v, List.mem_cons_self⟩
  cases sh with
  | any => exact absurd (K.cf v0 hv0) (by intro h; cases h)
  | num =>
    refine ⟨oneType', fun Q E hq => ?_, fun _ => cmp_ints K⟩
    have hI : IntsAre vs (vs.map SrtO.iv) := SrtO.ints_iv fun v hv => by
      have i := K.is v hv
      have c := K.cf v hv
      generalize k v = x at i c
      cases x with
      | int n => cases i; exact ⟨_, _, rfl⟩
      | _ => cases c
    match vs, hI, h2 with
    | v1 :: v2 :: rest, hI, _ =>
      rw [keyKind_ints hI]
      exact wpAny_pure hq
    | [], _, h => exact absurd h (by decide)
    | [_], _, h => exact absurd h (by simp)
  | tup ss =>
    have tups : ∀ v ∈ vs, ∃ l, DIs s.heap (.tup l) v ∧ k v = .tup l := fun v hv => by
      have i := K.is v hv
      have c := K.cf v hv
      generalize k v = x at i c
      cases x with
      | tup l => exact ⟨l, i, rfl⟩
      | _ => cases c
    by_cases hall : ∀ v ∈ vs, ∃ x l, k v = .tup (x :: l)
    · obtain ⟨fs, a, b, c⟩ := heads_of (s := s) vs fun v hv => ⟨K.is v hv, hall v hv⟩
      cases ss with
      | nil =>
        obtain ⟨x, l, e⟩ := hall v0 hv0
        have := K.cf v0 hv0
        rw [e] at this
        cases this
      | cons s0 ss =>
        have hd : ∀ f ∈ fs, ∃ x, DIs s.heap x f ∧ conf s0 x = true := fun f hf => by
          obtain ⟨v, hv, x, l, e, i⟩ := c f hf
          have cf := K.cf v hv
          rw [e] at cf
          simp only [conf, confL] at cf
          cases q : conf s0 x with
          | true => exact ⟨x, i, q⟩
          | false => rw [q] at cf; cases cf
        cases s0 with
        | any =>
          exfalso
          cases fs with
          | nil => simp at b; omega
          | cons f fs =>
            obtain ⟨x, _, h⟩ := hd f List.mem_cons_self
            cases h
        | num =>
          refine ⟨tuples' true, fun Q E hq => ?_, fun hA => cmp_tups K (fun _ => rfl) hA⟩
          refine W.kat_kind (T := .type "int") a (by omega) (fun f hf => ?_) (by rfl) ?_
          · obtain ⟨x, i, cx⟩ := hd f hf
            cases x with
            | int n => cases i; exact W.Looks.now
            | _ => cases cx
          · have e : (Value.type "int" != Value.type "tuple") = true := by first | decide +kernel | rfl | decide
            rw [e]
            exact hq
        | tup s1 =>
          refine ⟨tuples' false, fun Q E hq => ?_, fun hA => cmp_tups K (fun z => nomatch z) hA⟩
          refine W.kat_kind (T := .type "tuple") a (by omega) (fun f hf => ?_) (by rfl) ?_
          · obtain ⟨x, i, cx⟩ := hd f hf
            cases x with
            | tup l =>
              cases i with
              | tup h1 h2 h3 h4 =>
                rename_i p o us n
                exact fun A' Q' E' s' kp q => wpAny_typeOf ⟨_, kp _ _ h1, h2⟩ q
            | _ => cases cx
          · have e : (Value.type "tuple" != Value.type "tuple") = false := by first | decide +kernel | rfl | decide
            rw [e]
            exact hq
    · have hnot : ∃ v ∈ vs, neT (k v) = false := by
        apply Classical.byContradiction
        intro hn
        apply hall
        intro v hv
        obtain ⟨l, i, e⟩ := tups v hv
        cases l with
        | nil => exact absurd ⟨v, hv, by rw [e]; rfl⟩ hn
        | cons x l => exact ⟨x, l, e⟩
      obtain ⟨vb, hvb, hnb⟩ := hnot
      have start : ∀ {Q : SortKind → Shared → Prop} {E : Value → Shared → Prop}, Q (match neT (k (vs.headD .none)) with | true => general' | false => oneType') s → wpAny (model prog w) A (keyKind' vs.toArray) Q E s := fun {Q E} hq => by
        rw [kat_kind_eq, List.mapM_toArray, map_eq_pure_bind]
        refine wpAny_bind (wpAny_bind (firsts_any vs tups fun os ho => wpAny_pure ?_))
        have hno : ¬ ((os.toArray.all fun x => x.isSome) = true) := fun z => by
          simp only [List.all_toArray, List.all_eq_true] at z
          have : false ∈ vs.map (fun v => neT (k v)) := List.mem_map.mpr ⟨vb, hvb, hnb⟩
          rw [← ho] at this
          obtain ⟨o, hoM, hoN⟩ := List.mem_map.mp this
          rw [z o hoM] at hoN
          cases hoN
        rw [if_neg hno]
        have hh : (os.toArray[0]?.bind id).isSome = neT (k (vs.headD .none)) := by
          cases vs with
          | nil => cases hv0
          | cons v vs =>
            cases os with
            | nil => cases ho
            | cons o os =>
              rw [List.map_cons, List.map_cons] at ho
              have := (List.cons.inj ho).1
              simpa using this
        rw [hh]
        cases hb : neT (k (vs.headD .none)) with
        | true =>
          rw [hb] at hq
          rw [if_pos rfl]
          exact wpAny_pure hq
        | false =>
          rw [hb] at hq
          rw [if_neg (by simp)]
          rw [oneTypeOnly'_eq, List.mapM_toArray, map_eq_pure_bind]
          refine wpAny_bind (wpAny_bind (wpAny_bind (W.kas_mapM (r := Value.type "tuple") _ (fun v hv Q' hq => ?_) (wpAny_pure ?_))))
          · obtain ⟨l, i, e⟩ := tups v hv
            cases i with
            | tup h1 h2 h3 h4 => exact wpAny_typeOf ⟨_, h1, h2⟩ hq
          · have hall2 : ((List.map (fun _ => Value.type "tuple") vs).toArray.all fun x => x == Value.type "tuple") = true := by
              simp only [List.all_toArray, List.all_map, List.all_eq_true]
              intro _ _
              rfl
            have h0 : (List.map (fun _ => Value.type "tuple") vs).toArray[0]? = some (Value.type "tuple") := by
              cases vs with
              | nil => cases hv0
              | cons v vs => simp
            rw [h0]
            simp only [hall2, if_true]
            exact wpAny_pure (wpAny_pure hq)
      cases hb : neT (k (vs.headD .none)) with
      | true => exact ⟨general', fun Q E hq => start (by rw [hb]; exact hq), fun hA => cmp_general K hA⟩
      | false => exact ⟨oneType', fun Q E hq => start (by rw [hb]; exact hq), fun hA => cmp_one K hA⟩
end
end M
namespace M
open PySem PySem.Spec PyProof.Rows L2 SeqAt SrtO

/-! ### sorting by insertion -/
def insG {α : Type} (lt : α → α → Bool) (x : α) : List α → List α
  | [] => [x]
  | y :: r => (match lt y x with | true => y :: insG lt x r | false => x :: y :: r)
def srtG {α : Type} (lt : α → α → Bool) : List α → List α
  | [] => []
  | x :: l => insG lt x (srtG lt l)
section
variable {α β : Type} {lt : α → α → Bool}
theorem insG_stb (O : Swo lt) (x : α) : ∀ l : List α, Stb lt (insG lt x l) (x :: l)
  | [] => Stb.refl _
  | y :: r => by
    unfold insG
    cases q : lt y x with
    | true =>
      have h1 : Stb lt (y :: insG lt x r) (y :: x :: r) := Stb.app (Stb.refl [y]) (insG_stb O x r)
      have h2 : Stb lt ([y] ++ [x] ++ r) ([x] ++ [y] ++ r) := Stb.app (Stb.swap O (A := [y]) (B := [x]) fun a ha b hb => by
        rw [List.mem_singleton.mp ha, List.mem_singleton.mp hb]; exact q) (Stb.refl r)
      exact h1.trans h2
    | false => exact Stb.refl _
theorem insG_mem (O : Swo lt) {x z : α} {l : List α} (h : z ∈ insG lt x l) : z = x ∨ z ∈ l := List.mem_cons.mp ((insG_stb O x l).perm.mem_iff.mp h)
theorem insG_srtd (O : Swo lt) (x : α) : ∀ l : List α, Srtd lt l → Srtd lt (insG lt x l)
  | [], _ => srtd_one x
  | y :: r, h => by
    unfold insG
    cases q : lt y x with
    | true =>
      obtain ⟨h1, h2⟩ := List.pairwise_cons.mp h
      refine List.pairwise_cons.mpr ⟨fun z hz => ?_, insG_srtd O x r h2⟩
      rcases insG_mem O hz with rfl | hz
      · exact O.asym _ _ q
      · exact h1 z hz
    | false =>
      refine List.pairwise_cons.mpr ⟨fun z hz => ?_, h⟩
      rcases List.mem_cons.mp hz with rfl | hz
      · exact q
      · exact O.tr _ _ _ q (srtd_head h z hz)
theorem srtG_srtd (O : Swo lt) : ∀ l : List α, Srtd lt (srtG lt l)
  | [] => List.Pairwise.nil
  | x :: l => insG_srtd O x _ (srtG_srtd O l)
theorem srtG_stb (O : Swo lt) : ∀ l : List α, Stb lt (srtG lt l) l
  | [] => Stb.refl _
  | x :: l => (insG_stb O x _).trans (Stb.app (Stb.refl [x]) (srtG_stb O l))
theorem Stb.symm {l m : List α} (h : Stb lt l m) : Stb lt m l := ⟨h.perm.symm, fun x => (h.cls x).symm⟩
theorem stb_one (O : Swo lt) : ∀ a b : List α, Srtd lt a → Srtd lt b → Stb lt a b → a = b
  | [], b, _, _, h => (List.nil_perm.mp h.perm).symm
  | x :: a, [], _, _, h => by have := h.perm.length_eq; cases this
  | x :: a, y :: b, ha, hb, h => by
    have hx : x ∈ y :: b := h.perm.mem_iff.mp List.mem_cons_self
    have hy : y ∈ x :: a := h.perm.mem_iff.mpr List.mem_cons_self
    have e1 : lt x y = false := by
      rcases List.mem_cons.mp hx with rfl | z
      · exact O.refl _
      · exact srtd_head hb x z
    have e2 : lt y x = false := by
      rcases List.mem_cons.mp hy with rfl | z
      · exact O.refl _
      · exact srtd_head ha y z
    have c := h.cls x
    have xx : eqv lt x x = true := eqv_iff.mpr ⟨O.refl x, O.refl x⟩
    have xy : eqv lt x y = true := eqv_iff.mpr ⟨e1, e2⟩
    rw [List.filter_cons_of_pos xx, List.filter_cons_of_pos xy] at c
    have e : x = y := (List.cons.inj c).1
    subst e
    congr 1
    refine stb_one O a b (List.pairwise_cons.mp ha).2 (List.pairwise_cons.mp hb).2 ⟨List.Perm.cons_inv h.perm, fun z => ?_⟩
    have c := h.cls z
    cases q : eqv lt z x with
    | true =>
      rw [List.filter_cons_of_pos q, List.filter_cons_of_pos q] at c
      exact (List.cons.inj c).2
    | false =>
      rw [List.filter_cons_of_neg (by rw [q]; simp), List.filter_cons_of_neg (by rw [q]; simp)] at c
      exact c
theorem insG_map {lt' : β → β → Bool} (f : α → β) (x : α) : ∀ l : List α, (∀ y ∈ l, lt' (f y) (f x) = lt y x) → (insG lt x l).map f = insG lt' (f x) (l.map f)
  | [], _ => rfl
  | y :: r, h => by
    rw [List.map_cons]
    unfold insG
    rw [h y List.mem_cons_self]
    cases lt y x with
    | true =>
      rw [List.map_cons, insG_map f x r fun z hz => h z (List.mem_cons_of_mem _ hz)]
    | false => rfl
theorem insG_sub {x z : α} : ∀ {l : List α}, z ∈ insG lt x l → z = x ∨ z ∈ l
  | [], h => .inl (List.mem_singleton.mp h)
  | y :: r, h => by
    unfold insG at h
    cases q : lt y x with
    | true =>
      rw [q] at h
      rcases List.mem_cons.mp h with rfl | h
      · exact .inr List.mem_cons_self
      · rcases insG_sub h with e | e
        · exact .inl e
        · exact .inr (List.mem_cons_of_mem _ e)
    | false =>
      rw [q] at h
      rcases List.mem_cons.mp h with rfl | h
      · exact .inl rfl
      · exact .inr h
theorem srtG_sub {z : α} : ∀ {l : List α}, z ∈ srtG lt l → z ∈ l
  | [], h => h
  | x :: l, h => by
    rcases insG_sub h with rfl | h
    · exact List.mem_cons_self
    · exact List.mem_cons_of_mem _ (srtG_sub h)
theorem srtG_map {lt' : β → β → Bool} (f : α → β) : ∀ l : List α, (∀ x ∈ l, ∀ y ∈ l, lt' (f x) (f y) = lt x y) → (srtG lt l).map f = srtG lt' (l.map f)
  | [], _ => rfl
  | x :: l, h => by
    rw [List.map_cons]
    show (insG lt x (srtG lt l)).map f = insG lt' (f x) (srtG lt' (l.map f))
    rw [insG_map (lt' := lt') f x _ fun y hy => h y (List.mem_cons_of_mem _ (srtG_sub hy)) x List.mem_cons_self, srtG_map f l fun y hy z hz => h y (List.mem_cons_of_mem _ hy) z (List.mem_cons_of_mem _ hz)]
end
def srtD (l : List D) : List D := srtG ltX l
def srtOk (l : List D) : Bool := confAll (shAll .any l) l
/-- list, its values, as they lie -/
inductive Tri (K : PySem.W.Frag) (F : Hp) (h : Heap) : List (D × V × Value) → Prop
  | nil : Tri K F h []
  | cons {d : D} {v : V} {u : Value} {l : List (D × V × Value)} : Rd K F d v → RelV v u → DIs h d u → Tri K F h l → Tri K F h ((d, v, u) :: l)
theorem Tri.mem {K : PySem.W.Frag} {F : Hp} {h : Heap} : ∀ {l : List (D × V × Value)}, Tri K F h l → ∀ p ∈ l, Rd K F p.1 p.2.1 ∧ RelV p.2.1 p.2.2 ∧ DIs h p.1 p.2.2
  | _, .nil, _, hp => nomatch hp
  | _, .cons a b c r, p, hp => by
    rcases List.mem_cons.mp hp with rfl | hp
    · exact ⟨a, b, c⟩
    · exact r.mem p hp
theorem Tri.of {K : PySem.W.Frag} {F : Hp} {h : Heap} : ∀ {l : List (D × V × Value)}, (∀ p ∈ l, Rd K F p.1 p.2.1 ∧ RelV p.2.1 p.2.2 ∧ DIs h p.1 p.2.2) → Tri K F h l
  | [], _ => .nil
  | p :: l, g => by
    obtain ⟨a, b, c⟩ := g p List.mem_cons_self
    exact .cons a b c (Tri.of fun q hq => g q (List.mem_cons_of_mem _ hq))
theorem Tri.rd {K : PySem.W.Frag} {F : Hp} {h : Heap} : ∀ {l : List (D × V × Value)}, Tri K F h l → RdL K F (l.map (·.1)) (l.map (·.2.1)) ∧ Vals (l.map (·.2.1)) (l.map (·.2.2))
  | _, .nil => ⟨.nil, .nil⟩
  | _, .cons a b _ r => ⟨.cons a r.rd.1, .cons b r.rd.2⟩
section
variable {X : Cx} {pins : List (Addr × Obj)} {σ : L2.St} {H F : Hp} {s : Shared}
mutual
theorem Rd.dis (I : Inv X pins σ H s) (sm : Same F H) : ∀ {d : D} {v : V} {u : Value}, Rd X.K F d v → RelV v u → isQ d = true → DIs s.heap d u
  | _, _, _, .int i, ⟨t, e⟩, _ => by rw [e]; exact .int i t
  | _, _, _, .tup h r, e, q => by
    obtain ⟨its, rv, ⟨o, ho, hc, n, hd⟩, _⟩ := I.tuple (SqT.sameX sm h)
    rw [show _ = _ from e]
    exact .tup ho hc hd (by simpa using RdL.dis I sm r rv q)
  | _, _, _, .non, _, q => nomatch q
  | _, _, _, .bl _, _, q => nomatch q
  | _, _, _, .str _ _, _, q => nomatch q
  | _, _, _, .lst _ _, _, q => nomatch q
theorem RdL.dis (I : Inv X pins σ H s) (sm : Same F H) : ∀ {l : List D} {vs : List V} {us : List Value}, RdL X.K F l vs → Vals vs us → allQ l = true → DIsL s.heap l us
  | _, _, _, .nil, .nil, _ => .nil
  | _, _, _, .cons r t, .cons r' t', q => .cons (Rd.dis I sm r r' (allQ_cons q).1) (RdL.dis I sm t t' (allQ_cons q).2)
end
theorem RdL.tri (I : Inv X pins σ H s) (sm : Same F H) : ∀ {l : List D} {vs : List V} {us : List Value}, RdL X.K F l vs → Vals vs us → allQ l = true → ∃ T : List (D × V × Value), Tri X.K F s.heap T ∧ T.map (·.1) = l ∧ T.map (·.2.1) = vs ∧ T.map (·.2.2) = us
  | _, _, _, .nil, .nil, _ => ⟨[], .nil, rfl, rfl, rfl⟩
  | _, _, _, .cons r t, .cons r' t', q => by
    obtain ⟨T, a, b, c, e⟩ := RdL.tri I sm t t' (allQ_cons q).2
    exact ⟨(_, _, _) :: T, .cons r r' (Rd.dis I sm r r' (allQ_cons q).1) a, by rw [List.map_cons, b], by rw [List.map_cons, c], by rw [List.map_cons, e]⟩
end
mutual
theorem isQ_conf : ∀ (s : Sh) (x : D), conf s x = true → isQ x = true
  | .num, .int _, _ => rfl
  | .tup ss, .tup l, h => allQ_conf ss l h
  | .any, _, h => nomatch h
  | .num, .tup _, h => nomatch h
  | .num, .non, h => nomatch h
  | .num, .bl _, h => nomatch h
  | .num, .str _, h => nomatch h
  | .num, .lst _, h => nomatch h
  | .num, .bor _, h => nomatch h
  | .num, .dct _ _, h => nomatch h
  | .num, .bdc _ _, h => nomatch h
  | .tup _, .int _, h => nomatch h
  | .tup _, .non, h => nomatch h
  | .tup _, .bl _, h => nomatch h
  | .tup _, .str _, h => nomatch h
  | .tup _, .lst _, h => nomatch h
  | .tup _, .bor _, h => nomatch h
  | .tup _, .dct _ _, h => nomatch h
  | .tup _, .bdc _ _, h => nomatch h
theorem allQ_conf : ∀ (ss : List Sh) (l : List D), confL ss l = true → allQ l = true
  | _, [], _ => rfl
  | [], _ :: _, h => nomatch h
  | s :: ss, x :: l, h => by
    simp only [confL] at h
    cases q : conf s x with
    | false => rw [q] at h; cases h
    | true =>
      rw [q] at h
      simp only [allQ, isQ_conf s x q]
      exact allQ_conf ss l h
end
theorem allQ_of : ∀ {l : List D}, (∀ d ∈ l, isQ d = true) → allQ l = true
  | [], _ => rfl
  | d :: l, h => by
    simp only [allQ, h d List.mem_cons_self]
    exact allQ_of fun e he => h e (List.mem_cons_of_mem _ he)
/-- the key of a value in the heap -/
noncomputable def keyV (h : Heap) (v : Value) : D := open Classical in if c : ∃ d, DIs h d v then Classical.choose c else .int 0
theorem keyV_eq {h : Heap} {d : D} {v : Value} (i : DIs h d v) : keyV h v = d := by
  have c : ∃ d, DIs h d v := ⟨d, i⟩
  unfold keyV
  rw [dif_pos c]
  exact DIs.inj (Classical.choose_spec c) i
theorem keyV_q (h : Heap) (v : Value) : isQ (keyV h v) = true := by
  unfold keyV
  split
  · rename_i c; exact (Classical.choose_spec c).q
  · rfl
/-- the values, sorted: what the model's sort leaves -/
theorem tri_sorted {K : PySem.W.Frag} {F : Hp} {h : Heap} {T : List (D × V × Value)} (t : Tri K F h T) {out : List Value} (hs : Srtd (fun v u => ltX (keyV h v) (keyV h u)) out) (hb : Stb (fun v u => ltX (keyV h v) (keyV h u)) out (T.map (·.2.2))) :
    ∃ ws, RdL K F (srtD (T.map (·.1))) ws ∧ Vals ws out := by
  have O := swoX (keyV h) (keyV_q h)
  have e : out = srtG (fun v u => ltX (keyV h v) (keyV h u)) (T.map (·.2.2)) := stb_one O _ _ hs (srtG_srtd O _) (hb.trans (Stb.symm (srtG_stb O _)))
  have m := t.mem
  have e1 : (srtG (fun p q : D × V × Value => ltX p.1 q.1) T).map (·.2.2) = srtG (fun v u => ltX (keyV h v) (keyV h u)) (T.map (·.2.2)) := srtG_map _ T fun x hx y hy => by
    rw [keyV_eq (m x hx).2.2, keyV_eq (m y hy).2.2]
  have e2 : (srtG (fun p q : D × V × Value => ltX p.1 q.1) T).map (·.1) = srtD (T.map (·.1)) := srtG_map _ T fun x hx y hy => rfl
  have t2 : Tri K F h (srtG (fun p q : D × V × Value => ltX p.1 q.1) T) := Tri.of fun p hp => m p (srtG_sub hp)
  obtain ⟨a, b⟩ := t2.rd
  rw [e2] at a
  rw [e1, ← e] at b
  exact ⟨_, a, b⟩
end M
namespace M
open PySem PySem.Spec PyProof.Rows L2 SeqAt SrtO
theorem Keyd.keep {h h' : Heap} {vs : List Value} {k : Value → D} {sh : Sh} (K : Keyd h vs k sh) (g : ∀ a o, h.get? a = some o → o.cls = .type "tuple" → h'.get? a = some o) : Keyd h' vs k sh := ⟨fun v hv => (K.is v hv).keep g, K.cf, K.low⟩
section
variable {prog : Program} {w : World} {A : Around} {E : Value → Shared → Prop} {s : Shared}
theorem sortable_of {a : Addr} {vs : List Value} {k : Value → D} {sh : Sh} {n : Nat} (ho : s.heap.get? a = some (seqObj "list" vs.toArray n)) (K : Keyd s.heap vs k sh) (h2 : 2 ≤ vs.length) (hA : A.units + 30 < cLine) :
    SortableO prog w A s a vs fun v u => ltX (k v) (k u) := fun h' keep => by
  have K' : Keyd h' vs k sh := K.keep fun b o e c => keep b o (fun z => by
    subst z
    rw [ho] at e
    cases e
    exact absurd (Value.type.inj c) (by decide)) e
  obtain ⟨κ, a1, a2⟩ := kind_of (prog := prog) (w := w) (A := A) (s := { s with heap := h' }) K' h2
  exact ⟨κ, a1, a2 hA⟩
/-- behind the collecting: the new list, sorted -/
theorem sort_new {vs : List Value} {k : Value → D} {sh : Sh} {Q : Value → Shared → Prop} (O : Swo fun v u => ltX (k v) (k u)) (hz : vs.length ≤ sizeLine) (K : 2 ≤ vs.length → Keyd s.heap vs k sh) (hA : A.units + 40 < cLine)
    (h : ∀ (h' : Heap) (c : Nat) (out : List Value), (∀ b o, s.heap.get? b = some o → h'.get? b = some o) → h'.get? s.heap.objs.size = some (seqObj "list" out.toArray c) → Srtd (fun v u => ltX (k v) (k u)) out → Stb (fun v u => ltX (k v) (k u)) out vs → Q (.ref s.heap.objs.size) { s with heap := h' }) :
    wpAny (model prog w) A (newList vs) (fun l s1 => wpAny (model prog w) A (holding [l] (call (.builtin "list.sort") [l])) (fun _ s2 => Q l s2) E s1) E s := by
  refine wpAny_newList ?_ hz
  have hoL : (s.heap.push (seqObj "list" vs.toArray 0)).get? s.heap.objs.size = some (seqObj "list" vs.toArray 0) := Heap.get?_push_size _ rfl
  have keep : ∀ b o, s.heap.get? b = some o → (s.heap.push (seqObj "list" vs.toArray 0)).get? b = some o := fun b o q => Heap.get?_push_of_some _ q
  refine wpAny_holding (wpAny_call_entry slot_list_sort (s := { s with heap := s.heap.push (seqObj "list" vs.toArray 0) }) ⟨_, hoL, rfl⟩ entry_list_sort (list_sort_ord O hoL hz (fun h2 => sortable_of hoL ((K h2).keep fun a o e _ => keep a o e) h2 (by simp only [Around.in1_units]; omega)) fun out hs hb => ⟨_, rfl, ?_⟩) (args_list_sort _))
  obtain ⟨c, hc⟩ := sortedHeap_at (vs := vs) (out := out.toArray) hoL
  refine h _ c out (fun b o e => ?_) hc hs hb
  have hlt := Heap.lt_size e
  rw [sortedHeap_old (Nat.ne_of_lt hlt) (by rw [size_push']; exact Nat.lt_succ_of_lt hlt)]
  exact keep b o e
end
def rSortP (K : PySem.W.Frag) : List V → Hp → VK → Prop := fun vs H Q => ∃ F a x l, vs = [x] ∧ Same F H ∧ RdT K F H a x ∧ toLst a = some l ∧ srtOk l = true ∧ ∀ p ws, H p = none → RdL K F (srtD l) ws → ws.length ≤ sizeLine → Q (.ref p) (upd H p (.lst ws))
theorem keyd_of {h : Heap} {K : PySem.W.Frag} {F : Hp} {T : List (D × V × Value)} (t : Tri K F h T) (ok : srtOk (T.map (·.1)) = true) : Keyd h (T.map (·.2.2)) (keyV h) (shAll .any (T.map (·.1))) := by
  have key : ∀ v ∈ T.map (·.2.2), ∃ p ∈ T, v = p.2.2 ∧ keyV h v = p.1 := fun v hv => by
    obtain ⟨p, hp, rfl⟩ := List.mem_map.mp hv
    exact ⟨p, hp, rfl, keyV_eq (t.mem p hp).2.2⟩
  have cf : ∀ p ∈ T, conf (shAll .any (T.map (·.1))) p.1 = true ∧ lowD p.1 20 = true := fun p hp => confAll_mem ok p.1 (List.mem_map.mpr ⟨p, hp, rfl⟩)
  refine ⟨fun v hv => ?_, fun v hv => ?_, fun v hv => ?_⟩
  · obtain ⟨p, hp, rfl, e⟩ := key v hv
    rw [e]; exact (t.mem p hp).2.2
  · obtain ⟨p, hp, rfl, e⟩ := key v hv
    rw [e]; exact (cf p hp).1
  · obtain ⟨p, hp, rfl, e⟩ := key v hv
    rw [e]
    have := low_py p.1 20 (cf p hp).2
    have := depN p.1
    omega
section
variable {X : Cx} {cl : Nat → Value} {W : WX} {a : Expr} {A : CE} {p3 pos : Pos}
theorem call_sortP (hu : X.A.units + 64 < cLine) : CallR X (.builtin "sorted") (rSortP X.K) := by
  intro pins s σ H xs us Q I r h
  obtain ⟨F, a, x, l, rfl, sm, ra, ea, ok, q⟩ := h
  obtain ⟨p, vs, rfl, hsq, rl⟩ := ra.toL sm ea
  rw [Vals.ref1 r]
  -- the object
  obtain ⟨its, rv, T, hT, o, n, ho, hc, hd, hz⟩ : ∃ (its : List Value), Vals vs its ∧ ∃ (T : String), (T = "list" ∨ T = "tuple") ∧ ∃ o n, s.heap.get? p = some o ∧ o.cls = .type T ∧ o.data = .seq its.toArray n ∧ vs.length ≤ sizeLine := by
    rcases hsq with h | h
    · obtain ⟨its, rv, ⟨o, ho, hc, n, hd⟩, hz⟩ := I.tuple h
      exact ⟨its, rv, "tuple", .inr rfl, o, n, ho, hc, hd, hz⟩
    · obtain ⟨its, rv, pl, hz⟩ := I.list h
      obtain ⟨o, ho, hc, n, hd⟩ := pl.isList
      exact ⟨its, rv, "list", .inl rfl, o, n, ho, hc, hd, hz⟩
  have hlen : its.length = vs.length := rv.length.symm
  have hall : allQ l = true := allQ_of fun d hd => isQ_conf _ _ (confAll_mem ok d hd).1
  obtain ⟨Tr, t, e1, e2, e3⟩ := RdL.tri I sm rl rv hall
  refine Calls.call_function_entry kind_sorted plain_sorted entry_sorted (args_sorted1 _) ?_
  unfold Builtin.«sorted»
  refine wpAny_bind (m := checkCount "sorted" 1 1 _) (wpAny_pure ?_)
  refine wpAny_bind (wpAny_collect_seq (A := X.A.in1) p hT ho hc hd (fun h' keep => ?_) (by simpa [hlen] using hz))
  have K : Keyd h' its (keyV s.heap) (shAll .any l) := by
    have := keyd_of t (by rw [e1]; exact ok)
    rw [e1, e3] at this
    exact this.keep fun b o e _ => keep b o e
  refine wpAny_bind (wpAny_mono (sort_new (prog := X.prog) (w := X.w) (A := X.A.in1) (E := _) (s := { s with heap := h' }) (Q := fun v s2 => EP X pins σ Q v s2) (swoX (keyV s.heap) (keyV_q s.heap)) (by simpa [hlen] using hz) (fun _ => by simpa using K) (by simp only [Around.in1_units]; omega) fun h'' c out k2 hg hs hb => ?_) (fun l s1 h1 => ?_) fun _ _ x => x)
  · obtain ⟨ws, w1, w2⟩ := tri_sorted t hs (by rw [e3]; simpa using hb)
    rw [e1] at w1
    have hg0 : s.heap.get? h'.objs.size = none := by
      cases z : s.heap.get? h'.objs.size with
      | none => rfl
      | some o => exact absurd (Heap.lt_size (keep _ _ z)) (Nat.lt_irrefl _)
    have hn : H h'.objs.size = none := I.hok.gone hg0
    have wl : ws.length ≤ sizeLine := by
      have a1 := w2.length
      have a2 := hb.perm.length_eq
      have : out.length = its.length := by simpa using a2
      omega
    exact ⟨.ref h'.objs.size, upd H h'.objs.size (.lst ws), I.laidN (t' := s.toks) (fun b u e => k2 b u (keep b u e)) hg0 hn ⟨wl, out, c, w2, hg⟩, rfl, q _ ws hn w1 wl⟩
  · exact wpAny_bind (wpAny_mono h1 (fun _ s2 h2 => wpAny_pure ⟨_, rfl, h2⟩) fun _ _ x => x)
def nSrt (A : CE) : CA := fun e => (A e).bind fun d => match toLst d with
  | some l => (match srtOk l with | true => .ok (srtD l) | false => .bad)
  | none => .bad
theorem ppn_sorted (hu : X.A.units + 64 < cLine) (hl : Gl X "sorted") (ml : X.mg "sorted" = none) (ha : PP X cl W a A) (h1 : starEach [a] X.env = (false, eval a X.env) :: starEach [] X.env := by rfl) (h3 : (backTo pos (starEach [] X.env)).any (·.1) = false := by rfl) :
    PPN X cl W (.Call (.Name "sorted" p3) [a] [] pos) (nSrt A) :=
  PE.imp (pe_callB (call_sortP hu) hl ml rfl (pa_cons ha pa_nil h1) (by decide) (by decide) h1 h3) fun σ H Q ⟨F, e, st, h⟩ => by
    refine go1N st h fun d F1 H1 v x1 st1 r1 h1 => ?_
    cases z : toLst d with
    | none => rw [z] at h1; exact h1.elim
    | some l =>
      rw [z] at h1
      simp only at h1
      cases y : srtOk l with
      | false => rw [y] at h1; exact h1.elim
      | true =>
        rw [y] at h1
        exact ⟨F1, d, v, l, rfl, st1.sub, r1, z, y, fun p ws np rw' hz => h1 F1 H1 p ws (Ext.refl st1.sub) np rw' hz⟩
end
end M
namespace M
open PySem PySem.Spec PyProof.Rows L2 SeqAt

/-! ### what a set asks of such values -/
section
variable {P : Program} {w : World} {s : Shared}
theorem depth_mem : ∀ {l : List D} {n : Nat}, NestedKey.depthAll (toNL l) ≤ n → ∀ d ∈ l, (toN d).depth ≤ n
  | [], _, _, _, h => nomatch h
  | x :: l, n, h, d, hd => by
    simp only [toNL, NestedKey.depthAll] at h
    rcases List.mem_cons.mp hd with rfl | hd
    · omega
    · exact depth_mem (by omega) d hd
theorem ofClass_d : ∀ (n : Nat) {d : D} {v : Value}, DIs s.heap d v → (toN d).depth ≤ n → ∀ (A : Around) (E : Value → Shared → Prop) (Q : Bool → Shared → Prop), Q false s → wpAny (model P w) A (ofAClassStatement n v) Q E s
  | n, _, _, .int i t, _, A, E, Q, h => by
    have e : ofAClassStatement n (.int i t) = pure false := by cases n <;> rfl
    rw [e]
    exact wpAny_pure h
  | 0, _, _, .tup _ _ _ _, hd, _, _, _, _ => by simp [toN, NestedKey.depth] at hd
  | n + 1, .tup l, _, .tup (a := a) (o := o) (vs := vs) h1 h2 h3 h4, hd, A, E, Q, h => by
    simp only [toN, NestedKey.depth] at hd
    unfold ofAClassStatement
    refine wpAny_bind (wpAny_typeOf ⟨_, h1, h2⟩ ?_)
    dsimp only
    have e : (("tuple" : String) == "tuple") = true := by decide
    simp only [e, if_true, Bool.not_true, Bool.false_eq_true, if_false]
    try refine wpAny_bind (wpAny_pure ?_)
    try simp only [Bool.not_true, Bool.false_eq_true, if_false]
    refine wpAny_bind (wpAny_seqItems h1 h3 ?_)
    dsimp only
    refine wpAny_bind ?_
    show wpAny _ _ (forIn vs _ _) _ _ s
    rw [← Array.forIn_toList]
    refine wpAny_forIn_list _ (fun rest r s' => r.1 = none ∧ s' = s ∧ ∀ v ∈ rest, ∃ d ∈ l, DIs s.heap d v) _ ?_ ?_ _ _ ⟨rfl, rfl, h4.mem⟩
    · rintro v rest r s' ⟨hr, e', hall⟩
      rw [e']
      obtain ⟨d, dm, di⟩ := hall v List.mem_cons_self
      refine wpAny_bind (ofClass_d n di (depth_mem (by omega) d dm) A E _ ?_)
      simp only [Bool.false_eq_true, if_false]
      exact wpAny_pure ⟨rfl, rfl, fun u hu => hall u (List.mem_cons_of_mem _ hu)⟩
    · rintro ⟨r1, r2⟩ s' ⟨hr, rfl, _⟩
      simp only at hr
      subst hr
      exact wpAny_pure h
theorem hashBy_d : ∀ (n : Nat) {d : D} {v : Value}, DIs s.heap d v → (toN d).depth ≤ n → ∀ (A : Around) (E : Value → Shared → Prop) (Q : Bool → Shared → Prop), Q true s → wpAny (model P w) A (hashByValue n v) Q E s
  | n, _, _, .int i t, _, A, E, Q, h => by
    have e : hashByValue n (.int i t) = pure true := by cases n <;> rfl
    rw [e]
    exact wpAny_pure h
  | 0, _, _, .tup _ _ _ _, hd, _, _, _, _ => by simp [toN, NestedKey.depth] at hd
  | n + 1, .tup l, _, .tup (a := a) (o := o) (vs := vs) h1 h2 h3 h4, hd, A, E, Q, h => by
    simp only [toN, NestedKey.depth] at hd
    unfold hashByValue
    refine wpAny_bind (wpAny_specialOf ⟨_, h1, h2⟩ PySem.F.slot_tuple_hash.lookup ?_)
    show wpAny _ _ (seqItems? (.ref a) >>= _) _ _ s
    refine wpAny_bind (wpAny_seqItems h1 h3 ?_)
    refine wpAny_bind ?_
    show wpAny _ _ (forIn vs _ _) _ _ s
    rw [← Array.forIn_toList]
    refine wpAny_forIn_list _ (fun rest r s' => r.1 = none ∧ s' = s ∧ ∀ v ∈ rest, ∃ d ∈ l, DIs s.heap d v) _ ?_ ?_ _ _ ⟨rfl, rfl, h4.mem⟩
    · rintro v rest r s' ⟨hr, e', hall⟩
      rw [e']
      obtain ⟨d, dm, di⟩ := hall v List.mem_cons_self
      refine wpAny_bind (hashBy_d n di (depth_mem (by omega) d dm) A E _ ?_)
      simp only [Bool.not_true, Bool.false_eq_true, if_false]
      exact wpAny_pure ⟨rfl, rfl, fun u hu => hall u (List.mem_cons_of_mem _ hu)⟩
    · rintro ⟨r1, r2⟩ s' ⟨hr, rfl, _⟩
      simp only at hr
      subst hr
      exact wpAny_pure h
/-- a tuple that a set may hold -/
def TIs (h : Heap) (d : D) (v : Value) : Prop := DIs h d v ∧ (toN d).depth ≤ 8 ∧ ∃ l, d = .tup l
theorem TIs.ref {h : Heap} {d : D} {v : Value} (t : TIs h d v) : ∃ a o, v = .ref a ∧ h.get? a = some o ∧ o.cls = .type "tuple" := by
  obtain ⟨i, _, l, rfl⟩ := t
  cases i with
  | tup h1 h2 h3 h4 => exact ⟨_, _, rfl, h1, h2⟩
theorem TIs.keep {h h' : Heap} {d : D} {v : Value} (t : TIs h d v) (k : ∀ a o, h.get? a = some o → o.cls = .type "tuple" → h'.get? a = some o) : TIs h' d v := ⟨t.1.keep k, t.2⟩
variable {A : Around} {E : Value → Shared → Prop}
theorem seen_d {x : D} {v : Value} (hx : TIs s.heap x v) {ys : List Value} (hy : ∀ y ∈ ys, ∃ d, TIs s.heap d y) {Q : Bool → Shared → Prop} (h : Q false s) : wpAny (model P w) A (searchCouldBeSeen v ys) Q E s := by
  unfold searchCouldBeSeen
  refine wpAny_bind ?_
  refine wpAny_forIn_list _ (fun rest r s' => r.1 = none ∧ s' = s ∧ ∀ y ∈ rest, ∃ d, TIs s.heap d y) _ ?_ ?_ _ _ ⟨rfl, rfl, hy⟩
  · rintro y rest r s' ⟨hr, rfl, hall⟩
    obtain ⟨d, hc⟩ := hall y List.mem_cons_self
    have more : ∀ u ∈ rest, ∃ d, TIs s'.heap d u := fun u hu => hall u (List.mem_cons_of_mem _ hu)
    obtain ⟨a, _, rfl, _, _⟩ := hx.ref
    obtain ⟨b, _, rfl, _, _⟩ := hc.ref
    dsimp only
    by_cases hv : (a == b || (carriedByValue (.ref a) && carriedByValue (.ref b))) = true
    · exact wp_if_pos hv (wpAny_pure ⟨rfl, rfl, more⟩)
    · refine wp_if_neg hv ?_
      refine wpAny_bind (quiet_key _ _ 8 _ hx.1.nest hx.2.1 A _ _ ?_)
      simp only [Bool.not_true, Bool.false_eq_true, if_false]
      refine wpAny_bind (quiet_key _ _ 8 _ hc.1.nest hc.2.1 A _ _ ?_)
      simp only [Bool.not_true, Bool.false_eq_true, if_false]
      refine wpAny_bind (ofClass_d 8 hx.1 hx.2.1 A _ _ ?_)
      simp only [Bool.false_eq_true, if_false]
      refine wpAny_bind (ofClass_d 8 hc.1 hc.2.1 A _ _ ?_)
      simp only [Bool.false_eq_true, if_false]
      exact wpAny_pure ⟨rfl, rfl, more⟩
  · rintro ⟨r1, r2⟩ s' ⟨hr, rfl, _⟩
    simp only at hr
    subst hr
    exact wpAny_pure h
end
end M
namespace M
open PySem PySem.Spec PyProof.Rows L2 SeqAt

/-! ### a set of such tuples -/
abbrev Ent := List (D × Value)
def entOf (w : World) (L : Ent) : List (Int × Value) := L.map fun p => (hD w p.1, p.2)
def hsOf (w : World) (L : Ent) : List Int := L.map fun p => hD w p.1
structure TSet (w : World) (h : Heap) (a : Addr) (L : Ent) (es : Array (Int × Value)) (ep : Nat) (t : SetTable) : Prop where
  ob : ∃ o, h.get? a = some o ∧ o.ExactSet ∧ o.data = .set es ep t
  ent : es.toList = entOf w L
  tab : TabOk t (hsOf w L)
  one : (L.map (·.1)).Nodup
  el : ∀ p ∈ L, TIs h p.1 p.2
  pl : t.plain = true
  ld : w.params.followText "set-order" = true ∨ t.led = true
  rm : L.length * 5 < t.mask * 3
  few : L.length < 64
section
variable {P : Program} {w : World} {A : Around} {E : Value → Shared → Prop} {s : Shared} {a : Addr} {L : Ent} {es : Array (Int × Value)} {ep : Nat} {t : SetTable}
theorem ent_size (h : es.toList = entOf w L) : es.size = L.length := by
  have := congrArg List.length h
  simpa [entOf] using this
theorem ent_get (h : es.toList = entOf w L) {i : Nat} {p : D × Value} (hp : L[i]? = some p) : es[i]? = some (hD w p.1, p.2) := by
  rw [← Array.getElem?_toList, h, entOf, List.getElem?_map, hp] <;> rfl
theorem fits_of (T : TabOk t (hsOf w L)) (hs : es.size = L.length) (hr : L.length ≤ t.mask) : t.fits es.size = true := by
  have h1 := T.sz
  rw [hsOf, List.length_map] at h1
  unfold SetTable.fits SetTable.fill
  rw [T.dm, Bool.and_eq_true, beq_iff_eq, decide_eq_true_eq]
  show t.place.size = es.size ∧ t.place.size + 0 ≤ t.mask
  omega
theorem TSet.fits (R : TSet w s.heap a L es ep t) : t.fits es.size = true := fits_of R.tab (ent_size R.ent) (by have := R.rm; omega)
theorem TSet.odd (R : TSet w s.heap a L es ep t) : ¬ t.gaveWay = true := by
  unfold SetTable.gaveWay
  rw [mask_odd R.tab.mok]
  decide
theorem probe_dummy (m : Nat) : ∀ (n : Nat) (p : SetTable.Probe), p.dummy = none → (nth m p n).dummy = none
  | 0, _, h => h
  | n + 1, p, h => probe_dummy m n (adv m p) (by unfold adv; split <;> exact h)
/-- the first state of the search for the hash h -/
abbrev st0 (t : SetTable) (h : Int) : SetTable.Probe := runAt t.mask (SetTable.bits h % (t.mask + 1)) (SetTable.bits h)
/-- what the search finds, c steps on its way -/
theorem find_on (R : TSet w s.heap a L es ep t) {x : D} {v : Value} (hx : TIs s.heap x v) (hu : A.units + 8 < cLine) {K : Nat} (hf : K < 10 * SetTable.turns t.mask) (hK : way t.mask (hD w x) K ∉ t.place.toList)
    (hb : ∀ c, c < K → way t.mask (hD w x) c ∈ t.place.toList) {Q : SetFound → Shared → Prop} (yes : x ∈ L.map (·.1) → Q (.there none) s) (no : x ∉ L.map (·.1) → Q (.free (way t.mask (hD w x) K) false) s) :
    ∀ (f c : Nat) (sd : Option SetTable.Probe), sd.getD (t.probeStart (hD w x)) = nth t.mask (st0 t (hD w x)) c → c ≤ K → K - c < f →
      (∀ (i : Nat) p, L[i]? = some p → p.1 = x → ∃ c', c ≤ c' ∧ c' < K ∧ t.place.toList[i]? = some (way t.mask (hD w x) c')) → wpAny (model P w) A (setSearchFrom a v (hD w x) true f sd) Q E s
  | 0, _, _, _, _, hz, _ => absurd hz (Nat.not_lt_zero _)
  | f + 1, c, sd, hst, hc, hz, ahead => by
    obtain ⟨o, ho, _, hd⟩ := R.ob
    have at_ : ∀ q, (nth t.mask (nth t.mask (st0 t (hD w x)) c) q) = nth t.mask (st0 t (hD w x)) (c + q) := fun q => (nth_add t.mask c _ q).symm
    have wy : ∀ q, (nth t.mask (nth t.mask (st0 t (hD w x)) c) q).j = way t.mask (hD w x) (c + q) := fun q => congrArg SetTable.Probe.j (at_ q)
    have stored : ∀ (i : Nat) p, L[i]? = some p → (fun i => (es[i]?.map (·.1)).getD 0) i = hD w p.1 := fun i p hp => by
      show (es[i]?.map (·.1)).getD 0 = _
      rw [ent_get R.ent hp] <;> rfl
    have sp := go_spec t R.tab.ris R.tab.dm (fun i => (es[i]?.map (·.1)).getD 0) (hD w x) (10 * SetTable.turns t.mask) (K - c) (nth t.mask (st0 t (hD w x)) c) (probe_dummy _ c _ rfl) (by omega)
      (fun q hq => by rw [wy]; exact hb (c + q) (by omega)) (by rw [wy, show c + (K - c) = K by omega]; exact hK)
    rw [setSearchFrom_succ]
    refine wpAny_bind (wpAny_setState_of ho hd R.fits ?_)
    dsimp only
    refine wp_if_neg R.odd ?_
    try refine wpAny_bind (wpAny_pure ?_)
    rw [hst]
    rcases sp with ⟨q, i, hq, hi, _, first, pr⟩ | ⟨none_, pr⟩
    · rw [show t.probe (fun i => (es[i]?.map (·.1)).getD 0) (hD w x) (nth t.mask (st0 t (hD w x)) c) = _ from pr]
      dsimp only
      rw [wy] at hi
      rw [wy, at_]
      have il : i < L.length := by
        have h1 := (List.getElem?_eq_some_iff.mp hi).1
        have h2 := R.tab.sz
        rw [hsOf, List.length_map] at h2
        rw [Array.length_toList] at h1
        omega
      obtain ⟨p, hp⟩ : ∃ p, L[i]? = some p := ⟨_, List.getElem?_eq_getElem il⟩
      have hm := List.mem_of_getElem? hp
      have ep' := R.el p hm
      -- behind the candidate
      have rest : wpAny (model P w) A (searchRest a v (hD w x) true f es t (way t.mask (hD w x) (c + q)) i (nth t.mask (st0 t (hD w x)) (c + (q + 1)))) Q E s := by
        unfold searchRest
        rw [ent_get R.ent hp]
        dsimp only
        refine wpAny_bind (wpAny_holding (eqAt_d (x := p.1) (y := x) ep'.1 hx.1 (by have := ep'.2.1; omega) P w _ _ ?_))
        refine wpAny_bind (wpAny_setState_of ho hd R.fits ?_)
        dsimp only
        by_cases same : p.1 = x
        · have e1 : eqX p.1 x = true := by rw [same]; unfold eqX; rw [cmpX_self x hx.1.q]
          refine wp_if_pos (by simp [e1]) (wpAny_pure (yes (List.mem_map.mpr ⟨p, hm, same⟩)))
        · have e1 : eqX p.1 x = false := by
            cases z : cmpX p.1 x with
            | eq => exact absurd (cmpX_eq _ _ ep'.1.q hx.1.q z) same
            | lt => unfold eqX; rw [z]
            | gt => unfold eqX; rw [z]
          refine wp_if_neg (by simp [e1]) ?_
          try refine wpAny_bind (wpAny_pure ?_)
          rw [sameMem]
          dsimp only
          have live : t.slot (way t.mask (hD w x) (c + q)) = .live i := slot_live R.tab.ris hi
          obtain ⟨b, _, eb, _, _⟩ := ep'.ref
          simp only [if_true, live, ent_get R.ent hp, eb]
          refine wpAny_bind (wpAny_isSame_ref_self (wpAny_bind (wpAny_pure ?_)))
          simp only [if_true]
          refine wp_if_neg (by simp [e1]) ?_
          refine find_on R hx hu hf hK hb yes no f (c + (q + 1)) _ rfl (by omega) (by omega) fun j r hr er => ?_
          obtain ⟨c', a1, a2, a3⟩ := ahead j r hr er
          refine ⟨c', ?_, a2, a3⟩
          rcases Nat.lt_trichotomy c' (c + q) with z | z | z
          · exact absurd ((stored j r hr).trans (congrArg (hD w) er)) (first (c' - c) j (by omega) (by rw [wy, show c + (c' - c) = c' by omega]; exact a3))
          · rw [z] at a3
            have l2 := slot_live R.tab.ris a3
            rw [live] at l2
            injection l2 with l2
            rw [← l2, hp] at hr
            exact absurd ((congrArg Prod.fst (Option.some.inj hr)).trans er) same
          · omega
      by_cases hl : t.led = true
      · refine wp_if_neg (by simp [hl]) ?_
        try refine wpAny_bind (wpAny_pure ?_)
        exact rest
      · refine wp_if_pos (by simp [hl]) (wpAny_bind (seen_d hx (fun y hy => ?_) ?_))
        · obtain ⟨g, hg, rfl⟩ := List.mem_map.mp hy
          have g2 : g ∈ es.toList := by
            have : g ∈ es ∧ g.1 = hD w x := by simpa using hg
            simpa using this.1
          rw [R.ent] at g2
          obtain ⟨r, hr, rfl⟩ := List.mem_map.mp g2
          exact ⟨r.1, R.el r hr⟩
        · refine wp_if_neg (by decide) ?_
          try refine wpAny_bind (wpAny_pure ?_)
          exact rest
    · rw [show t.probe (fun i => (es[i]?.map (·.1)).getD 0) (hD w x) (nth t.mask (st0 t (hD w x)) c) = _ from pr]
      dsimp only
      rw [wy, show c + (K - c) = K by omega]
      refine wpAny_pure (no fun hm => ?_)
      obtain ⟨p, hp, e⟩ := List.mem_map.mp hm
      obtain ⟨i, hi⟩ := List.getElem?_of_mem hp
      obtain ⟨c', a1, a2, a3⟩ := ahead i p hi e
      exact none_ (c' - c) i (by omega) (by rw [wy, show c + (c' - c) = c' by omega]; exact a3) ((stored i p hi).trans (congrArg (hD w) e))
theorem find_at (R : TSet w s.heap a L es ep t) {x : D} {v : Value} (hx : TIs s.heap x v) (hu : A.units + 8 < cLine) {Q : SetFound → Shared → Prop} (yes : x ∈ L.map (·.1) → Q (.there none) s)
    (no : ∀ K, x ∉ L.map (·.1) → way t.mask (hD w x) K ∉ t.place.toList → (∀ c, c < K → way t.mask (hD w x) c ∈ t.place.toList) → Q (.free (way t.mask (hD w x) K) false) s) :
    wpAny (model P w) A (setSearch a v (hD w x) true) Q E s := by
  obtain ⟨K, hf, hK, hb⟩ := R.tab.first (by have := R.rm; rw [hsOf, List.length_map]; omega) (hD w x)
  have hbig : 10 * SetTable.turns t.mask ≤ 1420 := by
    unfold SetTable.turns
    rcases R.tab.mok with e | e | e <;> omega
  unfold setSearch
  refine find_on R hx hu hf hK hb yes (fun hn => no K hn hK hb) 100000 0 none rfl (Nat.zero_le _) (by omega) fun i p hp e => ?_
  have hi : (hsOf w L)[i]? = some (hD w x) := by rw [hsOf, List.getElem?_map, hp, ← e] <;> rfl
  have il : i < t.place.toList.length := by
    have h1 := (List.getElem?_eq_some_iff.mp hp).1
    have h2 := R.tab.sz
    rw [hsOf, List.length_map] at h2
    rw [Array.length_toList]
    omega
  have hj := List.getElem?_eq_getElem il
  obtain ⟨c, hc, e⟩ := R.tab.before hK hi hj
  exact ⟨c, Nat.zero_le _, hc, by rw [hj, e]⟩
end
end M
namespace M
open PySem PySem.Spec PyProof.Rows L2 SeqAt
theorem rng_fm {α : Type} : ∀ (L pre : List α) (k : Nat), pre.length = k → (List.range' k L.length).filterMap (fun i => (pre ++ L)[i]?) = L
  | [], _, _, _ => rfl
  | x :: L, pre, k, h => by
    have ih := rng_fm L (pre ++ [x]) (k + 1) (by simp [h])
    rw [List.length_cons, List.range'_succ]
    have e : (pre ++ x :: L)[k]? = some x := by rw [List.getElem?_append_right (by omega), h, Nat.sub_self]; rfl
    rw [List.filterMap_cons_some e]
    congr 1
    have e2 : pre ++ x :: L = (pre ++ [x]) ++ L := by simp
    rw [e2]
    exact ih
theorem order_ent {w : World} {L : Ent} {es : Array (Int × Value)} (h : es.toList = entOf w L) {order : Array Nat} (hp : order.toList.Perm (List.range L.length)) :
    ∃ L2, (order.filterMap (es[·]?)).toList = entOf w L2 ∧ L2.Perm L ∧ hsOf w L2 = order.toList.map fun i => (es.map (·.1)).getD i 0 := by
  have at_ : ∀ i, es[i]? = (L[i]?).map (fun p : D × Value => (hD w p.1, p.2)) := fun i => by rw [← Array.getElem?_toList, h, entOf, List.getElem?_map]
  refine ⟨order.toList.filterMap (fun i => L[i]?), ?_, ?_, ?_⟩
  · have e : (order.filterMap (es[·]?)).toList = order.toList.filterMap (fun i => es[i]?) := by first | exact Array.toList_filterMap .. | simp
    rw [e, entOf, List.map_filterMap]
    congr 1
    funext i
    exact at_ i
  · have := hp.filterMap (fun i => L[i]?)
    rwa [List.range_eq_range', show (List.range' 0 L.length).filterMap (fun i => L[i]?) = L from rng_fm L [] 0 rfl] at this
  · have key : ∀ l : List Nat, (∀ i ∈ l, i < L.length) → hsOf w (l.filterMap fun i => L[i]?) = l.map fun i => (es.map (·.1)).getD i 0 := by
      intro l
      induction l with
      | nil => intro _; rfl
      | cons i l ih =>
        intro hl
        have il := hl i List.mem_cons_self
        rw [List.filterMap_cons_some (List.getElem?_eq_getElem il), List.map_cons, ← ih fun j hj => hl j (List.mem_cons_of_mem _ hj)]
        have e5 : (es.map (·.1))[i]? = some (hD w (L[i]).1) := by rw [Array.getElem?_map, at_ i, List.getElem?_eq_getElem il] <;> rfl
        have e4 : (es.map (·.1)).getD i 0 = hD w (L[i]).1 := by simp [Array.getD_eq_getD_getElem?, e5]
        rw [e4]
        rfl
    exact key _ fun i hi => List.mem_range.mp (hp.mem_iff.mp hi)
section
variable {P : Program} {w : World} {A : Around} {E : Value → Shared → Prop} {s : Shared} {a : Addr} {L : Ent} {es : Array (Int × Value)} {ep : Nat} {t : SetTable}
theorem TIs.but {h h' : Heap} {d : D} {v : Value} {o : Obj} (x : TIs h d v) (ho : h.get? a = some o) (hc : o.cls = .type "set") (hs : Heap.SameBut a h h') : TIs h' d v :=
  x.keep fun b u hb ht => (hs.2 b fun z => by
    subst z
    rw [ho] at hb
    cases hb
    exact absurd (Value.type.inj (hc.symm.trans ht)) (by decide)).trans hb
/-- the table laid anew -/
theorem relay_t {o : Obj} (ho : s.heap.get? a = some o) (hex : o.ExactSet) (hd : o.data = .set es ep t) (he : es.toList = entOf w L) (T : TabOk t (hsOf w L)) (one : (L.map (·.1)).Nodup) (el : ∀ p ∈ L, TIs s.heap p.1 p.2) (pl : t.plain = true)
    (ld : w.params.followText "set-order" = true ∨ t.led = true) (few : L.length < 64) (hm : L.length ≤ t.mask) {wanted M : Nat} (hw : SetTable.sizeAbove wanted - 1 = M) (hM : MaskOk M) (hw2 : SetTable.sizeAbove wanted ≤ 128) (hn : L.length * 5 < M * 3)
    {Q : Unit → Shared → Prop} (hQ : ∀ h' L' es' ep' t', Heap.SameBut a s.heap h' → TSet w h' a L' es' ep' t' → L'.Perm L → Q () { s with heap := h' }) : wpAny (model P w) A (setRelay a wanted) Q E s := by
  have sz := ent_size he
  obtain ⟨t', order, e, hp, T', em, el', ep', ed⟩ := relaid_ok t (hs := es.map (·.1)) (wanted := wanted) hw hM (by rw [Array.size_map, sz]; omega)
  rw [Array.size_map, sz] at hp
  obtain ⟨L2, r1, r2, r3⟩ := order_ent he hp
  rw [← r3] at T'
  have sz2 : (order.filterMap (es[·]?)).size = es.size := by rw [ent_size r1, sz, r2.length_eq]
  rw [setRelay_eq]
  refine wpAny_bind (wpAny_setState_of ho hd (fits_of T sz hm) ?_)
  dsimp only
  refine wp_if_neg (by rw [sizeLine_eq]; omega) ?_
  try refine wpAny_bind (wpAny_pure ?_)
  rw [e]
  dsimp only
  refine wpAny_bind ?_
  refine wp_if_neg (by rw [sz2]; simp) ?_
  try refine wpAny_bind (wpAny_pure ?_)
  refine wpAny_pure ?_
  dsimp only
  refine wpAny_storeSet_of ho hd ?_ (by rw [sz2, sz, sizeLine_eq]; omega)
  have sb : Heap.SameBut a s.heap (s.heap.update a (Obj.putSet (order.filterMap (es[·]?)) t')) := Heap.SameBut.update ..
  refine hQ _ L2 _ (ep + 1) t' sb ⟨⟨_, store_at ho hd, ⟨hex.1, hex.2.1, hex.2.2⟩, rfl⟩, r1, T', (r2.map (·.1)).nodup_iff.mpr one, fun p hpm => (el p (r2.mem_iff.mp hpm)).but ho hex.1 sb, by rw [ep']; exact pl, by rw [el']; exact ld, ?_, by rw [r2.length_eq]; exact few⟩ r2
  rw [r2.length_eq, em]
  exact hn
/-- one put in -/
theorem add_t (R : TSet w s.heap a L es ep t) {x : D} {v : Value} (hx : TIs s.heap x v) (hu : A.units + 8 < cLine) (hfew : L.length + 1 < 64) {Q : Bool → Shared → Prop}
    (hQ : ∀ b h' L' es' ep' t', Heap.SameBut a s.heap h' → TSet w h' a L' es' ep' t' → (x ∈ L.map (·.1) → L' = L) → (x ∉ L.map (·.1) → L'.Perm ((x, v) :: L)) → Q b { s with heap := h' }) :
    wpAny (model P w) A (setAddHashed a v (hD w x)) Q E s := by
  obtain ⟨o, ho, hex, hd⟩ := R.ob
  have sz := ent_size R.ent
  have hrm := R.rm
  obtain ⟨b0, _, ev, _, _⟩ := hx.ref
  unfold setAddHashed
  refine wpAny_holding ?_
  rw [show (100000 : Nat) = 99999 + 1 from rfl, setAddHashedIn_succ]
  refine wpAny_bind (wpAny_setState_of ho hd R.fits ?_)
  dsimp only
  refine wp_if_neg (by rw [ev]; simp [byScan, Value.scannable]) ?_
  try refine wpAny_bind (wpAny_pure ?_)
  refine wpAny_bind (find_at R hx hu (fun hm => ?_) fun K hm hK hb => ?_)
  · dsimp only
    exact wpAny_pure (hQ false s.heap L es ep t (Heap.SameBut.refl a s.heap) R (fun _ => rfl) fun z => absurd hm z)
  · dsimp only
    refine wpAny_bind (wpAny_setState_of ho hd R.fits ?_)
    dsimp only
    obtain ⟨q1, q2, q3, q4, q5, q6, q7, q8, q9⟩ := R.tab.put hK hb
    have pl1 : (t.put (way t.mask (hD w x) K)).1.plain = true := by rw [q6]; exact R.pl
    generalize hpt : t.put (way t.mask (hD w x) K) = pt at q1 q3 q4 q5 q6 q7 q8 q9 pl1 ⊢
    obtain ⟨t1, j⟩ := pt
    dsimp only at q1 q3 q4 q5 q6 q7 q8 q9 pl1 ⊢
    subst q1
    first
      | (refine wpAny_bind ?_; refine wp_if_pos pl1 ?_; refine hashBy_d 8 hx.1 hx.2.1 A _ _ ?_)
      | refine wp_if_pos pl1 (wpAny_bind (hashBy_d 8 hx.1 hx.2.1 A _ _ ?_))
    simp only [if_true]
    generalize hj : SetTable.below t.place (way t.mask (hD w x) K) = j at q2 q3 ⊢
    obtain ⟨L1, hL1⟩ : ∃ L1, L1 = L.take j ++ (x, v) :: L.drop j := ⟨_, rfl⟩
    have pm : L1.Perm ((x, v) :: L) := by
      rw [hL1]
      have : (L.take j ++ (x, v) :: L.drop j).Perm ((x, v) :: (L.take j ++ L.drop j)) := List.perm_middle
      rwa [List.take_append_drop] at this
    have hent : (SetTable.insertAt es j (hD w x, v)).toList = entOf w L1 := by
      rw [SetTable.toList_insertAt, R.ent, hL1, entOf, entOf, List.map_append, List.map_cons, List.map_take, List.map_drop]
    have hh1 : hsOf w L1 = (hsOf w L).take j ++ hD w x :: (hsOf w L).drop j := by
      rw [hL1, hsOf, hsOf, List.map_append, List.map_cons, List.map_take, List.map_drop]
    rw [← hh1] at q3
    have len1 : L1.length = L.length + 1 := pm.length_eq
    have one1 : (L1.map (·.1)).Nodup := (pm.map (·.1)).nodup_iff.mpr (by rw [List.map_cons]; exact List.nodup_cons.mpr ⟨hm, R.one⟩)
    have sz1 := ent_size hent
    generalize SetTable.insertAt es j (hD w x, v) = es1 at hent sz1 ⊢
    refine wpAny_bind (wpAny_storeSet_of ho hd ?_ (by rw [sz1, len1, sizeLine_eq]; omega))
    have sb : Heap.SameBut a s.heap (s.heap.update a (Obj.putSet es1 t1)) := Heap.SameBut.update ..
    have ho1 := store_at (es' := es1) (t' := t1) ho hd
    generalize s.heap.update a (Obj.putSet es1 t1) = h1 at sb ho1 ⊢
    have el1 : ∀ p ∈ L1, TIs h1 p.1 p.2 := fun p hp => by
      rcases List.mem_cons.mp (pm.mem_iff.mp hp) with e | hp
      · rw [e]; exact hx.but ho hex.1 sb
      · exact (R.el p hp).but ho hex.1 sb
    have ld1 : w.params.followText "set-order" = true ∨ t1.led = true := by rw [q5]; exact R.ld
    by_cases hf : t1.tooFull = true
    · first
        | (refine wpAny_bind ?_; refine wp_if_pos (by simp [hf]) ?_)
        | (refine wp_if_pos (by simp [hf]) ?_; refine wpAny_bind ?_)
      have full : (L.length + 1) * 5 ≥ t1.mask * 3 := by
        have h := hf
        unfold SetTable.tooFull at h
        rw [decide_eq_true_eq, q9, hsOf, List.length_map] at h
        exact h
      rw [sz]
      have two : (t.mask = 7 ∧ L.length = 4) ∨ (t.mask = 31 ∧ L.length = 18) := by
        rw [q4] at full
        rcases R.tab.mok with e | e | e <;> rw [e] at full hrm <;> omega
      have go : ∀ M, SetTable.sizeAbove (SetTable.grown (L.length + 1)) - 1 = M → MaskOk M → SetTable.sizeAbove (SetTable.grown (L.length + 1)) ≤ 128 → (L.length + 1) * 5 < M * 3 →
          wpAny (model P w) A (setRelay a (SetTable.grown (L.length + 1))) (fun _ s' => wpAny (model P w) A (pure true) Q E s') E { s with heap := h1 } := fun M g1 g2 g3 g4 =>
        relay_t (s := { s with heap := h1 }) ho1 ⟨hex.1, hex.2.1, hex.2.2⟩ rfl hent q3 one1 el1 pl1 ld1 (by rw [len1]; exact hfew) (by rw [len1, q4]; omega) g1 g2 g3 (by rw [len1]; exact g4) fun h2 L2 es2 ep2 t2 sb2 R2 pm2 =>
          wpAny_pure (hQ true h2 L2 es2 ep2 t2 (sb.trans sb2) R2 (fun z => absurd z hm) fun _ => pm2.trans pm)
      rcases two with ⟨_, e2⟩ | ⟨_, e2⟩
      · exact go 31 (by rw [e2, size_20]) (.inr (.inl rfl)) (by rw [e2, size_20]; decide) (by omega)
      · exact go 127 (by rw [e2, size_76]) (.inr (.inr rfl)) (by rw [e2, size_76]; decide) (by omega)
    · first
        | refine wp_if_neg (by simp [hf]) ?_
        | (refine wpAny_bind ?_; refine wp_if_neg (by simp [hf]) ?_; refine wpAny_pure ?_)
      have free := hf
      unfold SetTable.tooFull at free
      rw [decide_eq_true_eq, q9, hsOf, List.length_map] at free
      exact wpAny_pure (hQ true h1 L1 es1 (ep + 1) t1 sb ⟨⟨_, ho1, ⟨hex.1, hex.2.1, hex.2.2⟩, rfl⟩, hent, q3, one1, el1, pl1, ld1, by rw [len1]; omega, by rw [len1]; exact hfew⟩ (fun z => absurd z hm) fun _ => pm)
end
end M
namespace M
open PySem PySem.Spec PyProof.Rows L2 SeqAt

/-! ### set(xs), whatever the kind of its elements -/
abbrev newSetObj (w : World) : Obj := { cls := .type "set", dict := none, data := .set #[] 0 (.fresh 0 0 (!w.params.followText "set-order")) }
/-- what a kind of elements must give -/
structure SKind (P : Program) (w : World) (At : Heap → Addr → Ent → Prop) (El : Heap → D → Value → Prop) : Prop where
  fresh : ∀ {h : Heap} {a : Addr}, h.get? a = some (newSetObj w) → At h a []
  keepAt : ∀ {h h' : Heap} {a : Addr} {L : Ent}, (∀ o, h.get? a = some o → h'.get? a = some o) → (∀ p ∈ L, El h' p.1 p.2) → At h a L → At h' a L
  keepEl : ∀ {h h' : Heap} {d : D} {v : Value}, (∀ b o, h.get? b = some o → h'.get? b = some o) → El h d v → El h' d v
  add : ∀ {A : Around} {E : Value → Shared → Prop} {s : Shared} {a : Addr} {L : Ent} {d : D} {v : Value} {Q : Bool → Shared → Prop}, At s.heap a L → El s.heap d v → L.length + 1 < 64 → A.units + 8 < cLine →
    (∀ b h' tk L', Heap.SameBut a s.heap h' → s.toks ≤ tk → At h' a L' → (d ∈ L.map (·.1) → L' = L) → (d ∉ L.map (·.1) → L'.Perm ((d, v) :: L)) → Q b { s with heap := h', toks := tk }) → wpAny (model P w) A (setAdd a v) Q E s
/-- what the set holds behind the first i of ks -/
structure Put (ks : Ent) (i : Nat) (L : Ent) : Prop where
  sub : ∀ p ∈ L, p ∈ ks.take i
  all : ∀ p ∈ ks.take i, p.1 ∈ L.map (·.1)
  len : L.length ≤ i
  one : (L.map (·.1)).Nodup
theorem Put.zero (ks : Ent) : Put ks 0 [] := ⟨fun p h => (by cases h), fun p h => (by simp at h), Nat.le_refl _, List.nodup_nil⟩
theorem take_snoc {α : Type} {l : List α} {i : Nat} {x : α} (h : l[i]? = some x) : l.take (i + 1) = l.take i ++ [x] := by
  rw [List.take_succ, h] <;> rfl
theorem Put.step {ks L L' : Ent} {i : Nat} {x : D × Value} (g : Put ks i L) (h : ks[i]? = some x) (c1 : x.1 ∈ L.map (·.1) → L' = L) (c2 : x.1 ∉ L.map (·.1) → L'.Perm (x :: L)) : Put ks (i + 1) L' := by
  rcases Classical.em (x.1 ∈ L.map (·.1)) with c | c
  · rw [c1 c]
    refine ⟨fun p hp => by rw [take_snoc h]; exact List.mem_append_left _ (g.sub p hp), fun p hp => ?_, Nat.le_succ_of_le g.len, g.one⟩
    rw [take_snoc h] at hp
    rcases List.mem_append.mp hp with z | z
    · exact g.all p z
    · rw [List.mem_singleton.mp z]; exact c
  · have pm := c2 c
    refine ⟨fun p hp => ?_, fun p hp => ?_, by rw [pm.length_eq]; exact Nat.succ_le_succ g.len, (pm.map (·.1)).nodup_iff.mpr (by rw [List.map_cons]; exact List.nodup_cons.mpr ⟨c, g.one⟩)⟩
    · rw [take_snoc h]
      rcases List.mem_cons.mp (pm.mem_iff.mp hp) with e | z
      · rw [e]; exact List.mem_append_right _ (List.mem_singleton.mpr rfl)
      · exact List.mem_append_left _ (g.sub p z)
    · rw [(pm.map (·.1)).mem_iff, List.map_cons]
      rw [take_snoc h] at hp
      rcases List.mem_append.mp hp with z | z
      · exact List.mem_cons_of_mem _ (g.all p z)
      · rw [List.mem_singleton.mp z]; exact List.mem_cons_self
section
variable {P : Program} {w : World} {A : Around} {E : Value → Shared → Prop} {s : Shared} {At : Heap → Addr → Ent → Prop} {El : Heap → D → Value → Prop}
/-- the loop of set.update -/
theorem set_loop (Kd : SKind P w At El) {I : Addr} {fp wr : List Addr} {G : Array GenState → Array GenState → Prop} {n : Nat} {Pv : Nat → Value → Prop} {St : Nat → Shared → Prop} {R : Result → Shared → Prop}
    (W : WalksS P w A.in1 I fp wr G n Pv St) (S : Addr) (hSf : S ∉ fp) (ks : Ent) (hn : n = ks.length) (hfew : ks.length < 64) (hval : ∀ i v, Pv i v → ∃ p, ks[i]? = some p ∧ v = p.2)
    (h0 : Heap) (hk : ∀ p ∈ ks, El h0 p.1 p.2) (hS0 : h0.get? S = none) (hw0 : ∀ b ∈ wr, h0.get? b = none) (hu : A.in1.units + 8 < cLine) :
    ∀ (k i : Nat) (s : Shared), n - i = k → i ≤ n → St i s → (∀ b o, h0.get? b = some o → s.heap.get? b = some o) → (∃ L, At s.heap S L ∧ Put ks i L) →
      (∀ s' L, Moved (S :: wr) G s s' → At s'.heap S L → Put ks n L → (∀ b o, h0.get? b = some o → s'.heap.get? b = some o) → R (.ok (.ret .none)) s') →
      codeAny (model P w) A (.builtin "set.update.loop" ⟨[.ref S, .ref I], []⟩) R s := by
  have hSw : S ∉ wr := fun h => hSf (W.sub _ h)
  have up : ∀ b ∈ wr, b ∈ S :: wr := fun b hb => List.mem_cons_of_mem _ hb
  have keep : ∀ {s s' : Shared}, Moved wr G s s' → (∀ b o, h0.get? b = some o → s.heap.get? b = some o) → ∀ b o, h0.get? b = some o → s'.heap.get? b = some o := fun m k b o e =>
    m.heap b o (fun hb => by rw [hw0 b hb] at e; cases e) (k b o e)
  have here : ∀ {s s' : Shared} {L : Ent} {i : Nat}, Moved wr G s s' → (∀ b o, h0.get? b = some o → s'.heap.get? b = some o) → Put ks i L → At s.heap S L → At s'.heap S L := fun m k g h =>
    Kd.keepAt (fun o e => m.heap S o hSw e) (fun p hp => Kd.keepEl k (hk p (List.mem_of_mem_take (g.sub p hp)))) h
  intro k
  induction k with
  | zero =>
    intro i s hk' hi hst hkp ⟨L, hS, g⟩ hR
    have hin : i = n := by omega
    subst hin
    refine codeAny_builtin F.entry_set_update_loop ?_
    rw [Around.under_plainId F.plain_set_update_loop _]
    show wpAny _ A.in1 (pyNext (.ref I) >>= _) _ _ s
    refine wpAny_bind (W.done s _ _ hst fun s' hm => ?_)
    have k2 := keep hm hkp
    exact wpAny_pure (hR s' L (hm.mono up) (here hm k2 g hS) g k2)
  | succ k ih =>
    intro i s hk' hi hst hkp ⟨L, hS, g⟩ hR
    have hlt : i < n := by omega
    refine codeAny_builtin F.entry_set_update_loop ?_
    rw [Around.under_plainId F.plain_set_update_loop _]
    show wpAny _ A.in1 (pyNext (.ref I) >>= _) _ _ s
    refine wpAny_bind (W.item i s _ _ hlt hst fun v s' hP hst' hm => ?_)
    obtain ⟨p, hp, rfl⟩ := hval i v hP
    have k2 := keep hm hkp
    show wpAny _ A.in1 (holding [p.2] (setAdd S p.2) >>= _) _ _ s'
    refine wpAny_bind (wpAny_holding (Kd.add (here hm k2 g hS) (Kd.keepEl k2 (hk p (List.mem_of_getElem? hp))) (by have := g.len; omega) hu fun b h' tk L' sb ht hS2 c1 c2 => ?_))
    have g' := g.step hp c1 c2
    have k3 : ∀ b o, h0.get? b = some o → h'.get? b = some o := fun b o e => (sb.2 b fun z => by rw [z, hS0] at e; cases e).trans (k2 b o e)
    refine wpAny_pure ⟨plainId_quiet F.plain_set_update_loop _, ih (i + 1) _ (by omega) hlt (W.frame _ s' _ _ hst' ht fun b hb o e => ?_) k3 ⟨L', hS2, g'⟩ fun s'' L2 m2 hS3 g2 k4 => ?_⟩
    · rw [sb.2 b fun z => hSf (by rw [← z]; exact hb)]; exact e
    · refine hR s'' L2 (Moved.trans W.gtrans ((hm.mono up).then_heap ht fun b o hb e => ?_) m2) hS3 g2 k4
      rw [sb.2 b fun z => hb (by rw [z]; exact List.mem_cons_self)]; exact e
end
end M
namespace M
open PySem PySem.Spec PyProof.Rows L2 SeqAt
theorem none_from {h : Heap} {b : Addr} (hb : h.objs.size ≤ b) : h.get? b = none := by
  cases q : h.get? b with
  | none => rfl
  | some o => exact absurd (Nat.lt_of_lt_of_le (Heap.lt_size q) hb) (Nat.lt_irrefl _)
section
variable {P : Program} {w : World} {A : Around} {E : Value → Shared → Prop} {s : Shared} {At : Heap → Addr → Ent → Prop} {El : Heap → D → Value → Prop}
/-- behind set.__new__: what the update from the iterator leaves -/
theorem set_fill (Kd : SKind P w At El) {it : Obj} {l : Addr} {ks : Ent} {n : Nat} {Pv : Nat → Value → Prop} {St : Nat → Shared → Prop} {G : Array GenState → Array GenState → Prop} (hu : A.in1.units + 8 < cLine) (hn : n = ks.length) (hfew : ks.length < 64)
    (hl : l < s.heap.objs.size) (W : WalksS P w A.in1 (s.heap.push (newSetObj w)).objs.size [(s.heap.push (newSetObj w)).objs.size, l] [(s.heap.push (newSetObj w)).objs.size] G n Pv St)
    (hst : St 0 { s with heap := (s.heap.push (newSetObj w)).push it }) (hval : ∀ i v, Pv i v → ∃ p, ks[i]? = some p ∧ v = p.2)
    (hk : ∀ p ∈ ks, El s.heap p.1 p.2) {R : Result → Shared → Prop}
    (hR : ∀ s' L, Moved (s.heap.objs.size :: [(s.heap.push (newSetObj w)).objs.size]) G { s with heap := (s.heap.push (newSetObj w)).push it } s' → At s'.heap s.heap.objs.size L → Put ks n L → (∀ b o, s.heap.get? b = some o → s'.heap.get? b = some o) → R (.ok (.ret .none)) s') :
    codeAny (model P w) A (.builtin "set.update.loop" ⟨[.ref s.heap.objs.size, .ref (s.heap.push (newSetObj w)).objs.size], []⟩) R { s with heap := (s.heap.push (newSetObj w)).push it } := by
  have z1 : (s.heap.push (newSetObj w)).objs.size = s.heap.objs.size + 1 := Heap.size_push ..
  have hS : (s.heap.push (newSetObj w)).get? s.heap.objs.size = some (newSetObj w) := Heap.get?_push_size _ rfl
  refine set_loop Kd W s.heap.objs.size ?_ ks hn hfew hval s.heap hk (none_from (Nat.le_refl _)) (fun b hb => none_from (by rw [List.mem_singleton.mp hb, z1]; exact Nat.le_succ _)) hu (n - 0) 0 _ rfl (Nat.zero_le _) hst
    (fun b o e => Heap.get?_push_of_some _ (Heap.get?_push_of_some _ e)) ⟨[], Kd.fresh (Heap.get?_push_of_some _ hS), Put.zero ks⟩ hR
  rw [z1]
  simp only [List.mem_cons, List.mem_singleton, List.not_mem_nil, or_false, not_or]
  exact ⟨by first | omega | exact Nat.ne_of_lt (Nat.lt_succ_self _), by first | omega | exact Nat.ne_of_gt hl⟩
set_option maxHeartbeats 3200000 in
/-- set(xs), xs a list or a tuple -/
theorem set_call (Kd : SKind P w At El) {l : Addr} {items : Array Value} {ks : Ent} (hh : A.handled = none) (hobj : s.heap.IsList l items ∨ s.heap.IsTuple l items) (hit : items.toList = ks.map (·.2)) (hk : ∀ p ∈ ks, El s.heap p.1 p.2) (hfew : ks.length < 64) (hu : A.units + 16 < cLine) {Q : Value → Shared → Prop}
    (h : ∀ (h' : Heap) (tk : Nat) L, At h' s.heap.objs.size L → Put ks ks.length L → (∀ b o, s.heap.get? b = some o → h'.get? b = some o) → Q (.ref s.heap.objs.size) { s with heap := h', toks := tk }) :
    wpAny (model P w) A (call (.type "set") [.ref l]) Q E s := by
  have hsz : items.size = ks.length := by
    have := congrArg List.length hit
    simpa using this
  have hval : ∀ (i : Nat) (v : Value), items[i]? = some v → ∃ p, ks[i]? = some p ∧ v = p.2 := fun i v hv => by
    have q : items.toList[i]? = some v := by rw [Array.getElem?_toList]; exact hv
    rw [hit, List.getElem?_map] at q
    cases z : ks[i]? with
    | none => rw [z] at q; cases q
    | some p => rw [z] at q; exact ⟨p, rfl, (Option.some.inj q).symm⟩
  have hl : l < s.heap.objs.size := by rcases hobj with ⟨o, ho, _⟩ | ⟨o, ho, _⟩ <;> exact Heap.lt_size ho
  obtain ⟨c, tl, hmro⟩ := PySem.F.called_set.mro
  have hmade := PySem.F.called_set.made
  have hsub := PySem.F.called_set.sub
  refine wpAny_call (codeAny_of_tree ?_)
  show wpAny _ _ (callAny (.type "set") _) _ _ _
  refine wpAny_pure ⟨Code.quiet_builtin _ (by decide +kernel), codeAny_builtin PySem.F.entry_type_call ?_⟩
  rw [Around.under_plain (weight_type_call_type "set" [.ref l] []) rfl]
  have h1 := PySem.F.called_set.notType
  have h2 := PySem.F.called_set.canCreate
  have hct := PySem.F.typeCall_set_1 (.ref l)
  repeat (any_goals (first | assumption | wp_step))
  refine codeAny_mono (code_set_led1 (.ref l) (E := E) (Q₁ := fun obj s₁ => obj = .ref s.heap.objs.size ∧ s₁ = { s with heap := s.heap.push (newSetObj w) }) ⟨rfl, rfl⟩) fun r s₁ hr => ?_
  cases r with
  | error e => exact hr
  | ok fl =>
    cases fl with
    | next => exact hr.elim
    | brk => exact hr.elim
    | cont => exact hr.elim
    | ret obj =>
      obtain ⟨rfl, rfl⟩ := hr
      have hS : (s.heap.push (newSetObj w)).get? s.heap.objs.size = some (newSetObj w) := Heap.get?_push_size _ rfl
      have hT : Shared.TypeIs { s with heap := s.heap.push (newSetObj w) } (.ref s.heap.objs.size) "set" := ⟨_, hS, rfl⟩
      have hli := PySem.F.called_set.init.lookup
      have hbi := PySem.F.called_set.init.bind (.ref s.heap.objs.size)
      repeat (any_goals (first | assumption | wp_step))
      refine codeAny_mono (codeAny_call_builtin (R := wants (fun r s₂ => r = .none ∧ ∃ h' tk L, s₂ = { s with heap := h', toks := tk } ∧ At h' s.heap.objs.size L ∧ Put ks ks.length L ∧ (∀ b o, s.heap.get? b = some o → h'.get? b = some o)) E)
        PySem.F.called_set.init.plain PySem.F.entry_set_init (check_set_init_1 hT ?_)) fun r₂ s₂ hr₂ => ?_
      · have fin : ∀ {it : Obj} {R : Result → Shared → Prop} {s' : Shared} {L : Ent}, Moved (s.heap.objs.size :: [(s.heap.push (newSetObj w)).objs.size]) (fun a b => b = a) { s with heap := (s.heap.push (newSetObj w)).push it } s' → At s'.heap s.heap.objs.size L → Put ks ks.length L → (∀ b o, s.heap.get? b = some o → s'.heap.get? b = some o) →
            ∃ h' tk L, s' = { s with heap := h', toks := tk } ∧ At h' s.heap.objs.size L ∧ Put ks ks.length L ∧ (∀ b o, s.heap.get? b = some o → h'.get? b = some o) := fun {it R s' L} m a g k => by
          obtain ⟨h', g2, d', tk', os'⟩ := s'
          have eg : g2 = s.gens := m.gens
          have ed : d' = s.drawn := m.drawn
          have eo : os' = s.os := m.os
          subst eg; subst ed; subst eo
          exact ⟨h', tk', L, rfl, a, g, k⟩
        rcases hobj with hobj | hobj
        · skip
          obtain ⟨ol, hol, hcl, nl, hdl⟩ := hobj
          obtain ⟨ocls, odict, odata, oslots⟩ := ol
          simp only at hcl hdl
          subst hcl; subst hdl
          have hol' : (s.heap.push (newSetObj w)).get? l = some { cls := .type "list", dict := odict, data := .seq items nl, slots := oslots } := Heap.get?_push_of_some _ hol
          have t1 := PySem.F.sub_list_set
          have t2 := PySem.F.sub_list_frozenset
          have t3 : (Value.type "list" == Value.type "dict") = false := by decide
          have o1p : ∀ it : Obj, ((s.heap.push (newSetObj w)).push it).IsList l items := fun it => ⟨_, Heap.get?_push_of_some _ hol', rfl, nl, rfl⟩
          have o1 : (s.heap.push (newSetObj w)).IsList l items := ⟨_, hol', rfl, nl, rfl⟩
          unfold Builtin.«set.__init__» noKeywords Builtin.Frozenset.updateFrom
          generalize hPI : pyIter = PI
          wp_walk
          subst hPI
          refine wpAny_pyIter_list o1 ?_
          refine wpAny_bind (wpAny_runValue ?_)
          refine set_fill (s := s) (l := l) Kd (by simp only [Around.in1_units]; omega) hsz hfew hl (Walks.list (by simp [hh]) _ l (by rw [Heap.size_push]; exact Nat.ne_of_lt (Nat.lt_succ_of_lt hl)) items).toS ⟨⟨_, Heap.get?_push_size _ rfl, rfl, rfl⟩, o1p _⟩ hval hk fun s' L m a g k => ?_
          obtain ⟨h', tk', L', rfl, a', g', k'⟩ := fin (R := fun _ _ => True) m a (by rw [hsz] at g; exact g) k
          refine wpAny_pure ?_
          exact wpAny_pure ⟨rfl, h', tk', L', rfl, a', g', k'⟩
        · skip
          obtain ⟨ol, hol, hcl, nl, hdl⟩ := hobj
          obtain ⟨ocls, odict, odata, oslots⟩ := ol
          simp only at hcl hdl
          subst hcl; subst hdl
          have hol' : (s.heap.push (newSetObj w)).get? l = some { cls := .type "tuple", dict := odict, data := .seq items nl, slots := oslots } := Heap.get?_push_of_some _ hol
          have t1 := PySem.F.sub_tuple_set
          have t2 := PySem.F.sub_tuple_frozenset
          have t3 : (Value.type "tuple" == Value.type "dict") = false := by decide
          have o1p : ∀ it : Obj, ((s.heap.push (newSetObj w)).push it).IsTuple l items := fun it => ⟨_, Heap.get?_push_of_some _ hol', rfl, nl, rfl⟩
          have o1 : (s.heap.push (newSetObj w)).IsTuple l items := ⟨_, hol', rfl, nl, rfl⟩
          unfold Builtin.«set.__init__» noKeywords Builtin.Frozenset.updateFrom
          generalize hPI : pyIter = PI
          wp_walk
          subst hPI
          refine wpAny_pyIter_tuple o1 ?_
          refine wpAny_bind (wpAny_runValue ?_)
          refine set_fill (s := s) (l := l) Kd (by simp only [Around.in1_units]; omega) hsz hfew hl (Walks.tuple (by simp [hh]) _ l (by rw [Heap.size_push]; exact Nat.ne_of_lt (Nat.lt_succ_of_lt hl)) items).toS ⟨⟨_, Heap.get?_push_size _ rfl, rfl, rfl⟩, o1p _⟩ hval hk fun s' L m a g k => ?_
          obtain ⟨h', tk', L', rfl, a', g', k'⟩ := fin (R := fun _ _ => True) m a (by rw [hsz] at g; exact g) k
          refine wpAny_pure ?_
          exact wpAny_pure ⟨rfl, h', tk', L', rfl, a', g', k'⟩
      · cases r₂ with
        | error e => exact hr₂
        | ok fl₂ =>
          cases fl₂ with
          | ret r =>
            obtain ⟨rfl, h', tk, L, rfl, a, g, k⟩ := hr₂
            repeat (any_goals (first | assumption | wp_step))
            exact h _ _ _ a g k
          | _ => exact hr₂.elim
end
end M
namespace M
open PySem PySem.Spec PyProof.Rows L2 SeqAt SrtO

/-! ### the two kinds -/
section
variable {P : Program} {w : World}
theorem tset_fresh {h : Heap} {a : Addr} (ho : h.get? a = some (newSetObj w)) : TSet w h a [] #[] 0 (.fresh 0 0 (!w.params.followText "set-order")) where
  ob := ⟨_, ho, ⟨rfl, rfl, rfl⟩, rfl⟩
  ent := rfl
  tab := ⟨List.Pairwise.nil, rfl, rfl, .inl rfl, fun x hx => (by cases hx), fun i h j hi => (by simp [hsOf] at hi)⟩
  one := List.nodup_nil
  el := fun p hp => (by cases hp)
  pl := rfl
  ld := by
    show _ ∨ (!w.params.followText "set-order") = true
    cases w.params.followText "set-order"
    · exact .inr rfl
    · exact .inl rfl
  rm := by show 0 * 5 < 7 * 3; decide
  few := by show 0 < 64; decide
def AtT (w : World) (h : Heap) (a : Addr) (L : Ent) : Prop := ∃ es ep t, TSet w h a L es ep t
theorem kindT : SKind P w (AtT w) TIs where
  fresh := fun ho => ⟨_, _, _, tset_fresh ho⟩
  keepAt := fun ha he ⟨es, ep, t, R⟩ => by
    obtain ⟨o, ho, r⟩ := R.ob
    exact ⟨es, ep, t, ⟨⟨o, ha o ho, r⟩, R.ent, R.tab, R.one, he, R.pl, R.ld, R.rm, R.few⟩⟩
  keepEl := fun k t => t.keep fun a o e _ => k a o e
  add := fun {A E s a L d v Q} ⟨es, ep, t, R⟩ hx hf hu hQ => by
    unfold setAdd
    refine wpAny_holding (wpAny_bind (pyHash_key (toN d) v A s _ hx.1.nest (by have := hx.2.1; omega) ?_))
    exact add_t (s := { s with toks := s.toks + (toN d).draws }) R hx hu hf fun b h' L' es' ep' t' sb R' c1 c2 => hQ b h' _ L' sb (Nat.le_add_right _ _) ⟨es', ep', t', R'⟩ c1 c2
def IIs (_ : Heap) (d : D) (v : Value) : Prop := ∃ k t, d = .int k ∧ v = .int k t
def hasI (L : Ent) (k : Int) : Bool := L.any fun p => (match p.1 with | .int i => decide (i = k) | _ => false)
def AtI (w : World) (h : Heap) (a : Addr) (L : Ent) : Prop := SetR w h a (hasI L) L.length ∧ ∀ p ∈ L, ∃ k, p.1 = .int k
theorem hasI_iff {L : Ent} (hL : ∀ p ∈ L, ∃ k, p.1 = .int k) (k : Int) : hasI L k = true ↔ D.int k ∈ L.map (·.1) := by
  unfold hasI
  rw [List.any_eq_true]
  refine ⟨fun ⟨p, hp, h⟩ => ?_, fun h => ?_⟩
  · obtain ⟨i, e⟩ := hL p hp
    rw [e] at h
    exact List.mem_map.mpr ⟨p, hp, by rw [e, of_decide_eq_true h]⟩
  · obtain ⟨p, hp, e⟩ := List.mem_map.mp h
    exact ⟨p, hp, by rw [e]; exact decide_eq_true rfl⟩
theorem kindI : SKind P w (AtI w) IIs where
  fresh := fun {h a} ho => by
    refine ⟨⟨_, #[], 0, _, ho, ⟨rfl, rfl, rfl⟩, rfl, (fun e he => by simp at he), (by simp), (fun k => by simp [hasI]), (by decide), (by rfl), rfl, List.Pairwise.nil, ?_⟩, fun p hp => (by cases hp)⟩
    show _ ∨ (!w.params.followText "set-order") = true
    cases w.params.followText "set-order"
    · exact .inr rfl
    · exact .inl rfl
  keepAt := fun ha he ⟨R, hL⟩ => ⟨R.at ha, hL⟩
  keepEl := fun _ t => t
  add := fun {A E s a L d v Q} ⟨R, hL⟩ hx hf hu hQ => by
    obtain ⟨k, t, rfl, rfl⟩ := hx
    unfold setAdd
    refine wpAny_holding (wpAny_bind (wpAny_pyHash_int ?_))
    refine setR_add_hashed (P := P) (s := { s with toks := s.toks + 1 }) R (by unfold scanBound; omega) fun h' sb R' => ?_
    by_cases c : D.int k ∈ L.map (·.1)
    · have hc := (hasI_iff hL k).mpr c
      rw [hc, if_pos rfl] at R'
      exact hQ _ h' _ L sb (Nat.le_succ _) ⟨R'.congr fun j => by
        by_cases z : j = k
        · rw [z, hc]; rfl
        · rw [decide_eq_false z, Bool.or_false], hL⟩ (fun _ => rfl) fun z => absurd c z
    · have hc : ¬ hasI L k = true := fun z => c ((hasI_iff hL k).mp z)
      rw [if_neg hc] at R'
      refine hQ _ h' _ ((D.int k, Value.int k t) :: L) sb (Nat.le_succ _) ⟨R'.congr fun j => ?_, fun p hp => ?_⟩ (fun z => absurd z c) fun _ => List.Perm.refl _
      · show (decide (k = j) || hasI L j) = (hasI L j || decide (j = k))
        rw [Bool.or_comm]
        by_cases z : j = k
        · rw [z]
        · rw [decide_eq_false z, decide_eq_false fun y => z y.symm]
      · rcases List.mem_cons.mp hp with rfl | hp
        · exact ⟨k, rfl⟩
        · exact hL p hp
end
end M
namespace M
open PySem PySem.Spec PyProof.Rows L2 SeqAt SrtO

/-! ### plain: without doubles, sorted -/
def memX (x : D) : List D → Bool
  | [] => false
  | y :: l => (match eqX x y with | true => true | false => memX x l)
def dedD : List D → List D
  | [] => []
  | x :: l => (match memX x l with | true => dedD l | false => x :: dedD l)
theorem eqX_iff {x y : D} (hx : isQ x = true) (hy : isQ y = true) : eqX x y = true ↔ x = y := by
  unfold eqX
  refine ⟨fun h => ?_, fun h => by rw [h, cmpX_self y hy]⟩
  cases q : cmpX x y with
  | eq => exact cmpX_eq x y hx hy q
  | lt => rw [q] at h; cases h
  | gt => rw [q] at h; cases h
theorem memX_iff {x : D} (hx : isQ x = true) : ∀ {l : List D}, allQ l = true → (memX x l = true ↔ x ∈ l)
  | [], _ => by simp [memX]
  | y :: l, h => by
    have a := allQ_cons h
    have ih := memX_iff hx a.2
    simp only [memX]
    cases q : eqX x y with
    | true => simp [(eqX_iff hx a.1).mp q]
    | false =>
      have ne : x ≠ y := fun z => by rw [(eqX_iff hx a.1).mpr z] at q; cases q
      simp only [List.mem_cons, ne, false_or]
      exact ih
theorem dedD_mem : ∀ {l : List D}, allQ l = true → ∀ d, d ∈ dedD l ↔ d ∈ l
  | [], _, d => Iff.rfl
  | x :: l, h, d => by
    have a := allQ_cons h
    simp only [dedD]
    cases q : memX x l with
    | true =>
      have hm := (memX_iff a.1 a.2).mp q
      show d ∈ dedD l ↔ _
      rw [dedD_mem a.2 d, List.mem_cons]
      exact ⟨.inr, fun z => z.elim (fun e => by rw [e]; exact hm) id⟩
    | false =>
      show d ∈ x :: dedD l ↔ _
      rw [List.mem_cons, List.mem_cons, dedD_mem a.2 d]
theorem dedD_one : ∀ {l : List D}, allQ l = true → (dedD l).Nodup
  | [], _ => List.nodup_nil
  | x :: l, h => by
    have a := allQ_cons h
    simp only [dedD]
    cases q : memX x l with
    | true => exact dedD_one a.2
    | false =>
      refine List.nodup_cons.mpr ⟨fun z => ?_, dedD_one a.2⟩
      have := (memX_iff a.1 a.2).mpr ((dedD_mem a.2 x).mp z)
      rw [this] at q; cases q
def kQ (d : D) : D := match isQ d with | true => d | false => .int 0
theorem kQ_q (d : D) : isQ (kQ d) = true := by
  unfold kQ
  cases h : isQ d with
  | true => exact h
  | false => rfl
theorem kQ_eq {d : D} (h : isQ d = true) : kQ d = d := by unfold kQ; rw [h]
theorem allQ_mem : ∀ {l : List D}, allQ l = true → ∀ d ∈ l, isQ d = true
  | [], _, _, h => nomatch h
  | x :: l, h, d, hd => by
    rcases List.mem_cons.mp hd with rfl | hd
    · exact (allQ_cons h).1
    · exact allQ_mem (allQ_cons h).2 d hd
theorem srtD_k {l : List D} (h : allQ l = true) : srtD l = srtG (fun x y => ltX (kQ x) (kQ y)) l := by
  have := srtG_map (lt := ltX) (lt' := fun x y => ltX (kQ x) (kQ y)) id l fun x hx y hy => by
    show ltX (kQ x) (kQ y) = ltX x y
    rw [kQ_eq (allQ_mem h x hx), kQ_eq (allQ_mem h y hy)]
  simpa [srtD] using this
theorem perm_srt {α : Type} {lt : α → α → Bool} : ∀ {a b : List α}, a.Perm b → Srtd lt a → Srtd lt b → (∀ x ∈ a, ∀ y ∈ a, lt x y = false → lt y x = false → x = y) → a = b
  | [], b, p, _, _, _ => (List.nil_perm.mp p).symm
  | x :: a, [], p, _, _, _ => by have := p.length_eq; cases this
  | x :: a, y :: b, p, ha, hb, anti => by
    have hx : x ∈ y :: b := p.mem_iff.mp List.mem_cons_self
    have hy : y ∈ x :: a := p.mem_iff.mpr List.mem_cons_self
    have e : x = y := by
      rcases List.mem_cons.mp hx with z | z
      · exact z
      · rcases List.mem_cons.mp hy with z2 | z2
        · exact z2.symm
        · exact anti x List.mem_cons_self y (List.mem_cons_of_mem _ z2) (srtd_head hb x z) (srtd_head ha y z2)
    subst e
    rw [perm_srt (List.Perm.cons_inv p) (List.pairwise_cons.mp ha).2 (List.pairwise_cons.mp hb).2 fun u hu v hv => anti u (List.mem_cons_of_mem _ hu) v (List.mem_cons_of_mem _ hv)]
theorem srtD_perm {a b : List D} (p : a.Perm b) (ha : allQ a = true) : srtD a = srtD b := by
  have hb : allQ b = true := allQ_of fun d hd => allQ_mem ha d (p.mem_iff.mpr hd)
  have O := swoX kQ kQ_q
  rw [srtD_k ha, srtD_k hb]
  have pa := (srtG_stb O a).perm
  refine perm_srt (pa.trans (p.trans (srtG_stb O b).perm.symm)) (srtG_srtd O a) (srtG_srtd O b) fun x hx y hy h1 h2 => ?_
  have qx := allQ_mem ha x (pa.mem_iff.mp hx)
  have qy := allQ_mem ha y (pa.mem_iff.mp hy)
  simp only [kQ_eq qx, kQ_eq qy] at h1 h2
  refine cmpX_eq x y qx qy ?_
  cases q : cmpX x y with
  | eq => rfl
  | lt => unfold ltX at h1; rw [q] at h1; cases h1
  | gt =>
    have s := cmpX_swap x y qx qy
    rw [q] at s
    unfold ltX at h2; rw [s] at h2; cases h2
theorem perm_up {α β : Type} (f : α → β) {vs m : List β} (p : vs.Perm m) : ∀ l : List α, m = l.map f → ∃ l' : List α, l'.Perm l ∧ l'.map f = vs := by
  induction p with
  | nil => intro l h; exact ⟨l, List.Perm.refl _, h.symm⟩
  | cons x p ih =>
    intro l h
    cases l with
    | nil => cases h
    | cons y l =>
      rw [List.map_cons] at h
      obtain ⟨l', a, b⟩ := ih l (List.cons.inj h).2
      exact ⟨y :: l', a.cons y, by rw [List.map_cons, b, (List.cons.inj h).1]⟩
  | swap x y p =>
    intro l h
    match l, h with
    | a :: b :: l, h =>
      simp only [List.map_cons, List.cons.injEq] at h
      exact ⟨b :: a :: l, List.Perm.swap _ _ _, by simp [h]⟩
  | trans p q ih1 ih2 =>
    intro l h
    obtain ⟨l1, a, b⟩ := ih2 l h
    obtain ⟨l2, c, d⟩ := ih1 l1 b.symm
    exact ⟨l2, c.trans a, d⟩
/-! ### the set as an object that is tracked -/
def AtT0 (w : World) (h : Heap) (a : Addr) (L : Ent) : Prop := ∃ es ep t, (∃ o, h.get? a = some o ∧ o.ExactSet ∧ o.data = .set es ep t) ∧ es.toList = entOf w L ∧ TabOk t (hsOf w L) ∧ (L.map (·.1)).Nodup ∧ t.plain = true ∧ (w.params.followText "set-order" = true ∨ t.led = true) ∧ L.length * 5 < t.mask * 3 ∧ L.length < 64
abbrev AE := List (D × Addr)
def entA (B : AE) : Ent := B.map fun e => (e.1, Value.ref e.2)
def SetDO (w : World) (a : Addr) (B : AE) : HO := .ext fun h => AtT0 w h a (entA B)
theorem entA_fst (B : AE) : (entA B).map (·.1) = B.map (·.1) := by simp [entA]
def tupsOk : List D → Bool
  | [] => true
  | d :: l => (match d with | .tup k => (match allQ k with | true => (match lowD d 8 with | true => tupsOk l | false => false) | false => false) | _ => false)
theorem tupsOk_mem : ∀ {l : List D}, tupsOk l = true → ∀ d ∈ l, isQ d = true ∧ (toN d).depth ≤ 8 ∧ ∃ k, d = .tup k
  | [], _, _, h => nomatch h
  | x :: l, h, d, hd => by
    cases x with
    | tup k =>
      simp only [tupsOk] at h
      cases q : allQ k with
      | false => rw [q] at h; cases h
      | true =>
        rw [q] at h
        simp only at h
        cases q2 : lowD (.tup k) 8 with
        | false => rw [q2] at h; cases h
        | true =>
          rw [q2] at h
          rcases List.mem_cons.mp hd with rfl | hd
          · exact ⟨q, Nat.le_trans (depN _) (low_py _ 8 q2), k, rfl⟩
          · exact tupsOk_mem h d hd
    | _ => cases h
section
variable {X : Cx}
def rSetT (K : PySem.W.Frag) (w : World) : List V → Hp → VK → Prop := fun vs H Q => ∃ F a x l, vs = [x] ∧ Same F H ∧ RdT K F H a x ∧ toLst a = some l ∧ l.length < 64 ∧ tupsOk l = true ∧
  ∀ p (B : AE), H p = none → (∀ e ∈ B, Rd K F e.1 (.ref e.2)) → (B.map (·.1)).Nodup → (∀ d, d ∈ B.map (·.1) ↔ d ∈ l) → Q (.ref p) (upd H p (SetDO w p B))
theorem cr_setT (hc : X.calm = true) (hu : X.A.units + 64 < cLine) : CallR X (.type "set") (rSetT X.K X.w) := by
  intro pins s σ H vs us Q I r h
  obtain ⟨F, a, x, l, rfl, sm, ra, ea, h64, ok, q⟩ := h
  obtain ⟨p, ys, rfl, hsq, rl⟩ := ra.toL sm ea
  rw [Vals.ref1 r]
  obtain ⟨its, rv, hobj⟩ : ∃ (its : List Value), Vals ys its ∧ (s.heap.IsList p its.toArray ∨ s.heap.IsTuple p its.toArray) := by
    rcases hsq with h | h
    · obtain ⟨its, rv, h, _⟩ := I.tuple h
      exact ⟨its, rv, .inr h⟩
    · obtain ⟨its, rv, pl, _⟩ := I.list h
      exact ⟨its, rv, .inl pl.isList⟩
  have hok := tupsOk_mem ok
  obtain ⟨T, t, e1, e2, e3⟩ := RdL.tri I sm rl rv (allQ_of fun d hd => (hok d hd).1)
  have tm := t.mem
  have memT : ∀ q ∈ T, TIs s.heap q.1 q.2.2 := fun q hq => by
    have := hok q.1 (by rw [← e1]; exact List.mem_map.mpr ⟨q, hq, rfl⟩)
    exact ⟨(tm q hq).2.2, this.2.1, this.2.2⟩
  have hlen : T.length = l.length := by rw [← e1, List.length_map]
  refine set_call (P := X.prog) (kindT (P := X.prog) (w := X.w)) (ks := T.map fun q => (q.1, q.2.2)) (I.ok.hd hc) hobj (by rw [← e3]; simp) (fun q hq => ?_) (by simpa [hlen] using h64) (by omega) fun h' tk L R g k => ?_
  · obtain ⟨q', hq', rfl⟩ := List.mem_map.mp hq
    exact memT q' hq'
  · have sub : ∀ e ∈ L, ∃ q ∈ T, e = (q.1, q.2.2) := fun e he => by
      have := List.mem_of_mem_take (g.sub e he)
      obtain ⟨q, hq, rfl⟩ := List.mem_map.mp this
      exact ⟨q, hq, rfl⟩
    have refs : ∀ e ∈ L, ∃ b, e.2 = .ref b ∧ Rd X.K F e.1 (.ref b) := fun e he => by
      obtain ⟨q, hq, rfl⟩ := sub e he
      obtain ⟨b, _, eb, _, _⟩ := (memT q hq).ref
      have m := tm q hq
      refine ⟨b, eb, ?_⟩
      obtain ⟨k, ek⟩ := (memT q hq).2.2
      have m1 := m.1
      have m2 := m.2.1
      rw [ek] at m1 ⊢
      generalize q.2.1 = v at m1 m2
      cases m1 with
      | tup h1 h2 =>
        have : q.2.2 = Value.ref _ := m2
        rw [eb] at this
        cases this
        exact .tup h1 h2
    let toA : D × Value → D × Addr := fun e => (e.1, match e.2 with | .ref b => b | _ => 0)
    have eL : entA (L.map toA) = L := by
      unfold entA
      rw [List.map_map]
      have : ∀ e ∈ L, ((fun e : D × Addr => (e.1, Value.ref e.2)) ∘ toA) e = e := fun e he => by
        obtain ⟨b, eb, _⟩ := refs e he
        obtain ⟨d, v⟩ := e
        simp only at eb
        subst eb
        rfl
      rw [List.map_congr_left this]
      simp
    have fst : (L.map toA).map (·.1) = L.map (·.1) := by simp [toA]
    have hn : H s.heap.objs.size = none := I.hok.fresh (Nat.le_refl _)
    obtain ⟨es, ep, t', R'⟩ := R
    have new : AtT0 X.w h' s.heap.objs.size (entA (L.map toA)) := by
      rw [eL]
      exact ⟨es, ep, t', R'.ob, R'.ent, R'.tab, R'.one, R'.pl, R'.ld, R'.rm, R'.few⟩
    refine ⟨.ref s.heap.objs.size, upd H s.heap.objs.size (SetDO X.w s.heap.objs.size (L.map toA)), I.laid (t' := tk) k (Nat.le_refl _) ⟨new, ?_, fun h1 h2 hp hk => ?_⟩, rfl, q _ (L.map toA) hn (fun e he => ?_) (by rw [fst]; exact g.one) fun d => ?_⟩
    · obtain ⟨o, ho, _⟩ := R'.ob
      exact ⟨o, ho⟩
    · obtain ⟨es, ep, t, ⟨o, ho, z⟩, y⟩ := hp
      exact ⟨es, ep, t, ⟨o, hk o ho, z⟩, y⟩
    · obtain ⟨e0, he0, rfl⟩ := List.mem_map.mp he
      obtain ⟨b, eb, rd⟩ := refs e0 he0
      show Rd X.K F e0.1 (.ref (match e0.2 with | .ref b => b | _ => 0))
      rw [eb]
      exact rd
    · rw [fst]
      refine ⟨fun hd => ?_, fun hd => ?_⟩
      · obtain ⟨e, he, rfl⟩ := List.mem_map.mp hd
        obtain ⟨q, hq, rfl⟩ := sub e he
        rw [← e1]; exact List.mem_map.mpr ⟨q, hq, rfl⟩
      · rw [← e1] at hd
        obtain ⟨q, hq, rfl⟩ := List.mem_map.mp hd
        have := g.all (q.1, q.2.2) (by rw [List.take_length]; exact List.mem_map.mpr ⟨q, hq, rfl⟩)
        exact this
end
end M
namespace M
open PySem PySem.Spec PyProof.Rows L2 SeqAt SrtO
theorem setDO_get {X : Cx} {pins : List (Addr × Obj)} {σ : L2.St} {H F : Hp} {s : Shared} {p : Addr} {B : AE} (I : Inv X pins σ H s) (sm : Same F H) (hp : H p = some (SetDO X.w p B)) : AtT0 X.w s.heap p (entA B) := (I.hok p _ hp).1
theorem tri_ae {X : Cx} {pins : List (Addr × Obj)} {σ : L2.St} {H F : Hp} {s : Shared} (I : Inv X pins σ H s) (sm : Same F H) : ∀ {B : AE}, (∀ e ∈ B, Rd X.K F e.1 (.ref e.2) ∧ isQ e.1 = true) → Tri X.K F s.heap (B.map fun e => (e.1, V.ref e.2, Value.ref e.2))
  | [], _ => .nil
  | e :: B, h => .cons (h e List.mem_cons_self).1 rfl (Rd.dis I sm (h e List.mem_cons_self).1 rfl (h e List.mem_cons_self).2) (tri_ae I sm fun e' he => h e' (List.mem_cons_of_mem _ he))
section
variable {X : Cx} {cl : Nat → Value} {W : WX} {a : Expr} {A : CE} {p1 p2 p3 pos : Pos}
def rSortSet (K : PySem.W.Frag) (w : World) : List V → Hp → VK → Prop := fun vs H Q => ∃ F p B sh, vs = [V.ref p] ∧ H p = some (SetDO w p B) ∧ Same F H ∧ (∀ e ∈ B, Rd K F e.1 (.ref e.2)) ∧ (∀ e ∈ B, conf sh e.1 = true ∧ lowD e.1 20 = true) ∧
  ∀ q ws, H q = none → RdL K F (srtD (B.map (·.1))) ws → ws.length ≤ sizeLine → Q (.ref q) (upd H q (.lst ws))
theorem cr_sortSet (hc : X.calm = true) (hu : X.A.units + 64 < cLine) : CallR X (.builtin "sorted") (rSortSet X.K X.w) := by
  intro pins s σ H vs us Q I r h
  obtain ⟨F, p, B, sh, rfl, hp, sm, hrd, hcf, q⟩ := h
  rw [Vals.ref1 r]
  obtain ⟨es, ep, t, ⟨o, ho, hex, hd⟩, hent, T, one, pl, ld, rm, few⟩ := setDO_get I sm hp
  have isq : ∀ e ∈ B, isQ e.1 = true := fun e he => isQ_conf sh _ (hcf e he).1
  have tri := tri_ae I sm fun e he => ⟨hrd e he, isq e he⟩
  have sz := ent_size hent
  refine Calls.call_function_entry kind_sorted plain_sorted entry_sorted (args_sorted1 _) ?_
  unfold Builtin.«sorted»
  refine wpAny_bind (m := checkCount "sorted" 1 1 _) (wpAny_pure ?_)
  refine wpAny_bind (collect_set (A := X.A.in1) (I.ok.hd hc) ⟨o, ho, hex.1, hd⟩ (fits_of T sz (by omega)) (by rw [sz]; unfold scanBound; omega) T.ris ld fun s1 vs keep hz g1 o1 pm => ?_)
  have hes : es.toList.map (·.2) = B.map fun e => Value.ref e.2 := by
    rw [hent, entOf, entA, List.map_map, List.map_map]
    rfl
  rw [hes] at pm
  obtain ⟨TL, tp, te⟩ := perm_up (fun q : D × V × Value => q.2.2) (m := B.map fun e => Value.ref e.2) pm (B.map fun e => (e.1, V.ref e.2, Value.ref e.2)) (by rw [List.map_map]; rfl)
  have tl : Tri X.K F s.heap TL := Tri.of fun q hq => tri.mem q (tp.mem_iff.mp hq)
  have fstp : (TL.map (·.1)).Perm (B.map (·.1)) := by
    have := tp.map (·.1)
    rwa [List.map_map] at this
  have hlen : vs.length = B.length := by rw [pm.length_eq, List.length_map]
  have hBl : (entA B).length = B.length := by simp [entA]
  have K : Keyd s1.heap vs (keyV s.heap) sh := by
    have m := tl.mem
    have key : ∀ v ∈ vs, ∃ q ∈ TL, v = q.2.2 ∧ keyV s.heap v = q.1 := fun v hv => by
      rw [← te] at hv
      obtain ⟨q, hq, rfl⟩ := List.mem_map.mp hv
      exact ⟨q, hq, rfl, keyV_eq (m q hq).2.2⟩
    have cf : ∀ q ∈ TL, conf sh q.1 = true ∧ lowD q.1 20 = true := fun q hq => by
      obtain ⟨e, he, rfl⟩ := List.mem_map.mp (tp.mem_iff.mp hq)
      exact hcf e he
    refine ⟨fun v hv => ?_, fun v hv => ?_, fun v hv => ?_⟩
    · obtain ⟨q, hq, rfl, e⟩ := key v hv
      rw [e]; exact (m q hq).2.2.keep fun b u hb _ => keep b u hb
    · obtain ⟨q, hq, rfl, e⟩ := key v hv
      rw [e]; exact (cf q hq).1
    · obtain ⟨q, hq, rfl, e⟩ := key v hv
      rw [e]
      have := low_py q.1 20 (cf q hq).2
      have := depN q.1
      omega
  have hz' : vs.length ≤ sizeLine := by rw [hlen, sizeLine_eq]; omega
  refine wpAny_bind (wpAny_mono (sort_new (prog := X.prog) (w := X.w) (A := X.A.in1) (E := _) (s := s1) (Q := fun v s2 => EP X pins σ Q v s2) (swoX (keyV s.heap) (keyV_q s.heap)) hz' (fun _ => K) (by simp only [Around.in1_units]; omega) fun h'' c out k2 hg hs hb => ?_) (fun l s2 h2 => ?_) fun _ _ x => x)
  · obtain ⟨ws, w1, w2⟩ := tri_sorted tl hs (by rw [te]; exact hb)
    rw [srtD_perm fstp (allQ_of fun d hd => by
      obtain ⟨q, hq, rfl⟩ := List.mem_map.mp hd
      exact (tl.mem q hq).2.2.q)] at w1
    have hg0 : s.heap.get? s1.heap.objs.size = none := none_from hz
    have hn : H s1.heap.objs.size = none := I.hok.gone hg0
    have wl : ws.length ≤ sizeLine := by
      have a1 := w2.length
      have a2 := hb.perm.length_eq
      omega
    have k3 : ∀ b u, s.heap.get? b = some u → h''.get? b = some u := fun b u e => k2 b u (keep b u e)
    have J : Inv X pins σ (upd H s1.heap.objs.size (.lst ws)) { s with heap := h'', gens := s1.gens, drawn := s1.drawn, toks := s1.toks } :=
      I.call (ch := []) (Un.laid k3 hz hn) (I.hok.laid k3 hz ⟨wl, out, c, w2, hg⟩) (by rw [g1]; exact I.bare) (fun _ z => nomatch z)
    have e : ({ s1 with heap := h'' } : Shared) = { s with heap := h'', gens := s1.gens, drawn := s1.drawn, toks := s1.toks } := by
      cases s1
      cases s
      cases o1
      rfl
    rw [e]
    exact ⟨.ref s1.heap.objs.size, _, J, rfl, q _ ws hn w1 wl⟩
  · exact wpAny_bind (wpAny_mono h2 (fun _ s2 h2 => wpAny_pure ⟨_, rfl, h2⟩) fun _ _ x => x)
/-- len(set) -/
theorem cr_lenSet : CallR X (.builtin "len") (fun vs H Q => ∃ F p B, vs = [V.ref p] ∧ Same F H ∧ H p = some (SetDO X.w p B) ∧ Q (.int B.length) H) := by
  intro pins s σ H vs us Q I r h
  obtain ⟨F, p, B, rfl, sm, hp, q⟩ := h
  rw [Vals.ref1 r]
  obtain ⟨es, ep, t, ⟨o, ho, hex, hd⟩, hent, T, one, pl, ld, rm, few⟩ := setDO_get I sm hp
  have sz := ent_size hent
  have hBl : (entA B).length = B.length := by simp [entA]
  refine call_len_set ho hex hd (fits_of T sz (by omega)) (by rw [sz]; omega) ?_
  rw [sz, hBl]
  exact ⟨.int B.length, H, I.tok _, ⟨_, rfl⟩, q⟩
end
end M
namespace M
open PySem PySem.Spec PyProof.Rows L2 SeqAt SrtO
theorem intsL_mem : ∀ {l : List D} {ns : List Int}, intsL l = some ns → l = ns.map D.int
  | [], _, h => by cases h; rfl
  | d :: l, ns, h => by
    cases d with
    | int i =>
      simp only [intsL] at h
      cases q : intsL l with
      | none => rw [q] at h; cases h
      | some r => rw [q] at h; cases h; rw [List.map_cons, intsL_mem q]
    | _ => cases h
theorem allQ_ints : ∀ ns : List Int, allQ (ns.map D.int) = true
  | [] => rfl
  | _ :: ns => allQ_ints ns
theorem srtD_fix {l : List D} (h : allQ l = true) (hs : Srtd (fun x y => ltX (kQ x) (kQ y)) l) : srtD l = l := by
  rw [srtD_k h]
  have O := swoX kQ kQ_q
  exact (stb_one O _ _ (srtG_srtd O l) hs (srtG_stb O l))
section
variable {X : Cx} {cl : Nat → Value} {W : WX} {a : Expr} {A : CE} {p1 p2 p3 pos pos2 : Pos}
def rSetI (K : PySem.W.Frag) (w : World) : List V → Hp → VK → Prop := fun vs H Q => ∃ F a x l ns, vs = [x] ∧ Same F H ∧ RdT K F H a x ∧ toLst a = some l ∧ l.length < 64 ∧ intsL l = some ns ∧
  ∀ p (S : Int → Bool), H p = none → (∀ k, S k = true ↔ k ∈ ns) → Q (.ref p) (upd H p (SetO w p S (dedD l).length))
theorem cr_setI (hc : X.calm = true) (hu : X.A.units + 64 < cLine) : CallR X (.type "set") (rSetI X.K X.w) := by
  intro pins s σ H vs us Q I r h
  obtain ⟨F, a, x, l, ns, rfl, sm, ra, ea, h64, ok, q⟩ := h
  obtain ⟨p, ys, rfl, hsq, rl⟩ := ra.toL sm ea
  rw [Vals.ref1 r]
  obtain ⟨its, rv, hobj⟩ : ∃ (its : List Value), Vals ys its ∧ (s.heap.IsList p its.toArray ∨ s.heap.IsTuple p its.toArray) := by
    rcases hsq with h | h
    · obtain ⟨its, rv, h, _⟩ := I.tuple h
      exact ⟨its, rv, .inr h⟩
    · obtain ⟨its, rv, pl, _⟩ := I.list h
      exact ⟨its, rv, .inl pl.isList⟩
  have el := intsL_mem ok
  have hq : allQ l = true := by rw [el]; exact allQ_ints ns
  obtain ⟨T, t, e1, e2, e3⟩ := RdL.tri I sm rl rv hq
  have hlen : T.length = l.length := by rw [← e1, List.length_map]
  refine set_call (P := X.prog) (kindI (P := X.prog) (w := X.w)) (ks := T.map fun q => (q.1, q.2.2)) (I.ok.hd hc) hobj (by rw [← e3]; simp) (fun q hq => ?_) (by simpa [hlen] using h64) (by omega) fun h' tk L R g k => ?_
  · obtain ⟨q', hq', rfl⟩ := List.mem_map.mp hq
    have hm : q'.1 ∈ l := by rw [← e1]; exact List.mem_map.mpr ⟨q', hq', rfl⟩
    rw [el] at hm
    obtain ⟨n, _, en⟩ := List.mem_map.mp hm
    have i := (t.mem q' hq').2.2
    show IIs _ q'.1 q'.2.2
    rw [← en] at i ⊢
    generalize q'.2.2 = u at i
    cases i
    exact ⟨n, _, rfl, rfl⟩
  · obtain ⟨R, hL⟩ := R
    have mem : ∀ d, d ∈ L.map (·.1) ↔ d ∈ l := fun d => by
      refine ⟨fun hd => ?_, fun hd => ?_⟩
      · obtain ⟨e, he, rfl⟩ := List.mem_map.mp hd
        obtain ⟨q, hq, rfl⟩ := List.mem_map.mp (List.mem_of_mem_take (g.sub e he))
        rw [← e1]; exact List.mem_map.mpr ⟨q, hq, rfl⟩
      · rw [← e1] at hd
        obtain ⟨q, hq, rfl⟩ := List.mem_map.mp hd
        exact g.all (q.1, q.2.2) (by rw [List.take_length]; exact List.mem_map.mpr ⟨q, hq, rfl⟩)
    have pl : (L.map (·.1)).Perm (dedD l) := (List.perm_ext_iff_of_nodup g.one (dedD_one hq)).mpr fun d => by rw [mem d, dedD_mem hq d]
    have hn2 : L.length = (dedD l).length := by rw [← pl.length_eq, List.length_map]
    rw [hn2] at R
    refine ⟨.ref s.heap.objs.size, upd H s.heap.objs.size (SetO X.w s.heap.objs.size (hasI L) (dedD l).length), I.laid (t' := tk) k (Nat.le_refl _) (setO_new R), rfl, q _ (hasI L) (I.hok.fresh (Nat.le_refl _)) fun j => ?_⟩
    rw [hasI_iff hL j, mem, el, List.mem_map]
    exact ⟨fun ⟨n, hn, e⟩ => by cases e; exact hn, fun h => ⟨j, h, rfl⟩⟩
theorem cr_lenSetI : CallR X (.builtin "len") (fun vs H Q => ∃ p S n, vs = [V.ref p] ∧ H p = some (SetO X.w p S n) ∧ Q (.int n) H) := by
  intro pins s σ H vs us Q I r h
  obtain ⟨p, S, n, rfl, hp, q⟩ := h
  rw [Vals.ref1 r]
  obtain ⟨o, es, ep, t, ho, hex, hd, g, nd, hm, hb, hf, hn, hr, hl⟩ := setO_get I hp
  refine call_len_set ho hex hd hf (by unfold scanBound at hb; omega) ?_
  rw [hn]
  exact ⟨.int n, H, I.tok _, ⟨_, rfl⟩, q⟩
def setOk (l : List D) : Bool := match Nat.blt l.length 64 with
  | true => (match tupsOk l with | true => true | false => (match intsL l with | some _ => true | none => false))
  | false => false
def nSS (A : CE) : CA := fun e => (A e).bind fun d => match toLst d with
  | some l => (match setOk l with | true => (match srtOk l with | true => .ok (srtD (dedD l)) | false => .bad) | false => .bad)
  | none => .bad
def cLS (A : CE) : CE := fun e => (A e).bind fun d => match toLst d with
  | some l => (match setOk l with | true => .ok (.int (Int.ofNat (dedD l).length)) | false => .bad)
  | none => .bad
theorem setOk_lt {l : List D} (h : setOk l = true) : l.length < 64 := by
  unfold setOk at h
  cases q : Nat.blt l.length 64 with
  | true => exact Nat.le_of_ble_eq_true q
  | false => rw [q] at h; cases h
theorem setOk_ints {l : List D} (h : setOk l = true) (hn : tupsOk l = false) : ∃ ns, intsL l = some ns := by
  unfold setOk at h
  cases q : Nat.blt l.length 64 with
  | true =>
    rw [q, hn] at h
    cases z : intsL l with
    | some ns => exact ⟨ns, rfl⟩
    | none => rw [z] at h; cases h
  | false => rw [q] at h; cases h
theorem tups_q {l : List D} (h : tupsOk l = true) : allQ l = true := allQ_of fun d hd => (tupsOk_mem h d hd).1
theorem dedD_le : ∀ l : List D, (dedD l).length ≤ l.length
  | [] => Nat.le_refl _
  | x :: l => by
    simp only [dedD]
    cases memX x l with
    | true => exact Nat.le_succ_of_le (dedD_le l)
    | false => exact Nat.succ_le_succ (dedD_le l)
theorem ints_rd {K : PySem.W.Frag} {F : Hp} : ∀ ns : List Int, RdL K F (ns.map D.int) (ns.map V.int)
  | [] => .nil
  | n :: ns => .cons (.int n) (ints_rd ns)
theorem tp_ok {F H : Hp} {σ : St} {e : En} {R : VK} {d : D} (st : Stt X.K F e σ H) (ed : A e = .ok d) (k : ∀ F' H' v, Ext F H F' H' → Stt X.K F' e σ H' → RdT X.K F' H' d v → R v H') : tp X.K cl W A σ H R :=
  ⟨F, e, st, by rw [ed]; exact fun F' H' v x r => k F' H' v x (st.ext x) r⟩
theorem tp_exc {F H : Hp} {σ : St} {e : En} {R : VK} {c : Nat} (st : Stt X.K F e σ H) (ed : A e = .exc c) (k : ∀ F' H', Ext F H F' H' → W (cl c) none σ H') : tp X.K cl W A σ H R :=
  ⟨F, e, st, by rw [ed]; exact k⟩
theorem ppn_sortset (hc : X.calm = true) (hu : X.A.units + 64 < cLine) (hs : Gl X "sorted") (ms : X.mg "sorted" = none) (ht : Gl X "set") (mt : X.mg "set" = none) (ha : PP X cl W a A)
    (h1 : starEach [.Call (.Name "set" p2) [a] [] pos2] X.env = (false, eval (.Call (.Name "set" p2) [a] [] pos2) X.env) :: starEach [] X.env := by rfl) (h2 : starEach [a] X.env = (false, eval a X.env) :: starEach [] X.env := by rfl)
    (h3 : (backTo pos (starEach [] X.env)).any (·.1) = false := by rfl) (h4 : (backTo pos2 (starEach [] X.env)).any (·.1) = false := by rfl) :
    PPN X cl W (.Call (.Name "sorted" p1) [.Call (.Name "set" p2) [a] [] pos2] [] pos) (nSS A) := by
  have r1 := pe_callB (cr_sortSet hc hu) (p := p1) hs ms rfl (pa_cons (pe_callTy (cr_setT hc hu) (p := p2) ht mt rfl (pa_cons ha pa_nil h2) (by decide) (by decide) h2 h4) pa_nil h1) (by decide) (by decide) h1 h3
  have r2 := pe_callB (cr_sortedSet hc) (p := p1) hs ms rfl (pa_cons (pe_callTy (cr_setI hc hu) (p := p2) ht mt rfl (pa_cons ha pa_nil h2) (by decide) (by decide) h2 h4) pa_nil h1) (by decide) (by decide) h1 h3
  refine ⟨fun pins s σ H Q I ⟨F, e, st, h⟩ => ?_⟩
  unfold nSS at h
  cases qA : A e with
  | bad => rw [qA] at h; exact h.elim
  | exc c => rw [qA] at h; exact r1.run pins s σ H Q I (tp_exc st qA h)
  | ok d =>
    rw [qA] at h
    have h : PostN X.K cl W F H σ Q (match toLst d with
      | some l => (match setOk l with | true => (match srtOk l with | true => .ok (srtD (dedD l)) | false => .bad) | false => .bad)
      | none => .bad) := h
    cases qL : toLst d with
    | none => rw [qL] at h; exact h.elim
    | some l =>
      rw [qL] at h
      simp only at h
      cases q1 : setOk l with
      | false => rw [q1] at h; exact h.elim
      | true =>
        rw [q1] at h
        simp only at h
        cases q2 : srtOk l with
        | false => rw [q2] at h; exact h.elim
        | true =>
          rw [q2] at h
          have cf := confAll_mem q2
          cases q3 : tupsOk l with
          | true =>
            refine r1.run pins s σ H Q I (tp_ok st qA fun F1 H1 v x1 st1 rd => ⟨F1, d, v, l, rfl, st1.sub, rd, qL, setOk_lt q1, q3, fun p B np hrd one mem => ?_⟩)
            have w := Ext.add st1.sub np (SetDO X.w p B)
            refine ⟨F1, p, B, shAll .any l, rfl, upd_same, w.sub, hrd, fun e he => cf _ ((mem e.1).mp (List.mem_map.mpr ⟨e, he, rfl⟩)), fun q ws nq rw' wl => ?_⟩
            have hq := tups_q q3
            have pl : (B.map (·.1)).Perm (dedD l) := (List.perm_ext_iff_of_nodup one (dedD_one hq)).mpr fun d => by rw [mem d, dedD_mem hq d]
            rw [srtD_perm pl (allQ_of fun d hd => allQ_mem hq d ((mem d).mp hd))] at rw'
            exact h F1 _ q ws (x1.trans w) nq rw' wl
          | false =>
            obtain ⟨ns, en⟩ := setOk_ints q1 q3
            refine r2.run pins s σ H Q I (tp_ok st qA fun F1 H1 v x1 st1 rd => ⟨F1, d, v, l, ns, rfl, st1.sub, rd, qL, setOk_lt q1, en, fun p S np mem => ?_⟩)
            have el := intsL_mem en
            have hq : allQ l = true := by rw [el]; exact allQ_ints ns
            have w := Ext.add st1.sub np (SetO X.w p S (dedD l).length)
            have hlt := setOk_lt q1
            have hded : (dedD l).length < 64 := Nat.lt_of_le_of_lt (dedD_le l) hlt
            refine ⟨p, S, (dedD l).length, rfl, upd_same, hded, fun ns' q so mm ln nq => ?_⟩
            have one' : (ns'.map D.int).Nodup := List.pairwise_map.mpr (so.imp fun {a b} hlt e => by cases e; exact Int.lt_irrefl _ hlt)
            have pl : (ns'.map D.int).Perm (dedD l) := (List.perm_ext_iff_of_nodup one' (dedD_one hq)).mpr fun d => by
              rw [dedD_mem hq d, el, List.mem_map, List.mem_map]
              exact ⟨fun ⟨k, hk, e⟩ => ⟨k, (mem k).mp ((mm k).mp hk), e⟩, fun ⟨k, hk, e⟩ => ⟨k, (mm k).mpr ((mem k).mpr hk), e⟩⟩
            have es : srtD (dedD l) = ns'.map D.int := by
              rw [← srtD_perm pl (allQ_ints ns')]
              refine srtD_fix (allQ_ints ns') (List.pairwise_map.mpr (so.imp fun {a b} hlt => ?_))
              show ltX (.int b) (.int a) = false
              have e : ltX (.int b) (.int a) = decide (b < a) := (lt_cmp b a).symm
              rw [e]
              exact decide_eq_false (by omega)
            have rd' : RdL X.K F1 (srtD (dedD l)) (ns'.map V.int) := by
              rw [es]
              exact ints_rd ns'
            exact h F1 _ q _ (x1.trans w) nq rd' (by rw [List.length_map, ln, sizeLine_eq]; omega)
theorem pp_lenset (hc : X.calm = true) (hu : X.A.units + 64 < cLine) (hs : Gl X "len") (ms : X.mg "len" = none) (ht : Gl X "set") (mt : X.mg "set" = none) (ha : PP X cl W a A)
    (h1 : starEach [.Call (.Name "set" p2) [a] [] pos2] X.env = (false, eval (.Call (.Name "set" p2) [a] [] pos2) X.env) :: starEach [] X.env := by rfl) (h2 : starEach [a] X.env = (false, eval a X.env) :: starEach [] X.env := by rfl)
    (h3 : (backTo pos (starEach [] X.env)).any (·.1) = false := by rfl) (h4 : (backTo pos2 (starEach [] X.env)).any (·.1) = false := by rfl) :
    PP X cl W (.Call (.Name "len" p1) [.Call (.Name "set" p2) [a] [] pos2] [] pos) (cLS A) := by
  have r1 := pe_callB (cr_lenSet (X := X)) (p := p1) hs ms rfl (pa_cons (pe_callTy (cr_setT hc hu) (p := p2) ht mt rfl (pa_cons ha pa_nil h2) (by decide) (by decide) h2 h4) pa_nil h1) (by decide) (by decide) h1 h3
  have r2 := pe_callB (cr_lenSetI (X := X)) (p := p1) hs ms rfl (pa_cons (pe_callTy (cr_setI hc hu) (p := p2) ht mt rfl (pa_cons ha pa_nil h2) (by decide) (by decide) h2 h4) pa_nil h1) (by decide) (by decide) h1 h3
  refine ⟨fun pins s σ H Q I ⟨F, e, st, h⟩ => ?_⟩
  unfold cLS at h
  cases qA : A e with
  | bad => rw [qA] at h; exact h.elim
  | exc c => rw [qA] at h; exact r1.run pins s σ H Q I (tp_exc st qA h)
  | ok d =>
    rw [qA] at h
    have h : PostE X.K cl W F H σ Q (match toLst d with
      | some l => (match setOk l with | true => .ok (.int (Int.ofNat (dedD l).length)) | false => .bad)
      | none => .bad) := h
    cases qL : toLst d with
    | none => rw [qL] at h; exact h.elim
    | some l =>
      rw [qL] at h
      simp only at h
      cases q1 : setOk l with
      | false => rw [q1] at h; exact h.elim
      | true =>
        rw [q1] at h
        cases q3 : tupsOk l with
        | true =>
          refine r1.run pins s σ H Q I (tp_ok st qA fun F1 H1 v x1 st1 rd => ⟨F1, d, v, l, rfl, st1.sub, rd, qL, setOk_lt q1, q3, fun p B np hrd one mem => ?_⟩)
          have w := Ext.add st1.sub np (SetDO X.w p B)
          have hq := tups_q q3
          have pl : (B.map (·.1)).Perm (dedD l) := (List.perm_ext_iff_of_nodup one (dedD_one hq)).mpr fun d => by rw [mem d, dedD_mem hq d]
          have hl : B.length = (dedD l).length := by rw [← pl.length_eq, List.length_map]
          refine ⟨F1, p, B, rfl, w.sub, upd_same, ?_⟩
          rw [hl]
          exact h F1 _ _ (x1.trans w) (.of (.int _))
        | false =>
          obtain ⟨ns, en⟩ := setOk_ints q1 q3
          refine r2.run pins s σ H Q I (tp_ok st qA fun F1 H1 v x1 st1 rd => ⟨F1, d, v, l, ns, rfl, st1.sub, rd, qL, setOk_lt q1, en, fun p S np mem => ?_⟩)
          have w := Ext.add st1.sub np (SetO X.w p S (dedD l).length)
          exact ⟨p, S, (dedD l).length, rfl, upd_same, h F1 _ _ (x1.trans w) (.of (.int _))⟩
end
end M
namespace M
open PySem PySem.Spec PyProof.Rows L2
theorem room65 {k : Nat} {A : Around} (hr : Room k A) : A.units + 65 < cLine := by have := hr.un; omega
end M
namespace M
open PySem PySem.Spec PyProof.Rows L2

/-! ### methods of tuples -/
theorem TupX.obj {X : Cx} {pins : List (Addr × Obj)} {σ : L2.St} {H : Hp} {s : Shared} {p : Addr} {vs : List V} (I : Inv X pins σ H s) (t : TupX X.K H p vs) : s.TypeIs (.ref p) "tuple" ∧ ∃ ob, s.heap.get? p = some ob ∧ ob.dict = none := by
  have ht : s.heap.IsTuple p _ := (I.tuple t.sq).choose_spec.2.1
  refine ⟨ht.typeIs, ?_⟩
  rcases t with ⟨o, h, hd⟩ | ⟨o, its, n, h1, h2, hd, _⟩
  · exact ⟨o, (I.hok p _ h).1, hd⟩
  · exact ⟨o, I.kIn _ _ h1, hd⟩
section
variable {X : Cx} {o e : Expr} {es : List Expr} {to : TE} {t : TA} {name : Str} {apos cpos : Pos} {id : String} {r : V → List V → Hp → VK → Prop}
theorem pe_tm (slot : Slot "tuple" name id) (hty : typeOf (.builtin id) = pure (.type "method_descriptor")) (hm : MtR X id r) (ho : PE X o to) (ha : PA X (e :: es) t)
    (hbase : attributeBase o name X.env (eval o X.env) = eval o X.env)
    (hfew : ((backTo cpos (starEach (e :: es) X.env)).all (fun x => !x.1) && (backToKw cpos (keywordEach [] X.env)).all (fun x => x.1.isSome)
      && decide ((e :: es).length + ([] : List Keyword).length + (if ([] : List Keyword).isEmpty then 0 else 1) < 30)) = true)
    (hline : (apos.endLine == cpos.line) = true) (hs : starEach (e :: es) X.env = (false, eval e X.env) :: starEach es X.env) (hplain : (backTo cpos (starEach es X.env)).any (·.1) = false) :
    PE X (.Call (.Attribute o name apos) (e :: es) [] cpos) (fun σ H Q => to σ H fun x H1 => (∃ p vs, x = .ref p ∧ TupX X.K H1 p vs) ∧ t σ H1 fun xs H2 => r x xs H2 Q) := by
  refine ⟨fun pins s σ H Q I h => ?_⟩
  refine wpAny_Call_method_late hbase hfew hline rfl (thn (ho.run pins s σ H _ I h) fun v s1 ⟨x, H1, I1, r1, ⟨p, vs, ex, tx⟩, q1⟩ => ?_)
  subst ex
  cases r1
  obtain ⟨h1, ob, h2, h3⟩ := tx.obj I1
  refine ⟨"tuple", id, PySem.F.plainAttrs_tuple, slot, hty, h1, fun a ea => by cases ea; exact ⟨ob, h2, h3⟩, ?_⟩
  have hA := ha.run cpos pins s1 σ H1 _ I1 q1
  rw [hs] at hA ⊢
  refine Calls.callWith_builtin (by show (false || (backTo cpos (starEach es X.env)).any (·.1)) = false; rw [hplain] <;> rfl) (Calls.evalArgs_plain ?_)
  exact thn hA fun us s2 ⟨vs, H2, I2, r2, q2⟩ => hm pins s2 σ H2 (.ref p) vs _ us Q I2 rfl r2 q2
end
def rTup (K : PySem.W.Frag) (f : List D → D → Option D) : V → List V → Hp → VK → Prop := fun x xs H Q => ∃ F p vs l y d z, x = .ref p ∧ xs = [y] ∧ Same F H ∧ SqT K H p vs ∧ RdL K F l vs ∧ RdT K F H d y ∧ f l d = some z ∧ ∀ F' H' v, Ext F H F' H' → RdT K F' H' z v → Q v H'
def cntL (d : D) : List D → Nat
  | [] => 0
  | z :: l => (match eqB z d with | true => cntL d l + 1 | false => cntL d l)
def cntD (l : List D) (y : D) : Option D := match lowD y 40 with
  | true => (match lowL l 40 with | true => some (.int (Int.ofNat (cntL y l))) | false => none)
  | false => none
theorem cntL_eq (d : D) : ∀ l : List D, (toPyL l).countP (fun y => PyData.eqv y (toPy d)) = cntL d l
  | [] => rfl
  | z :: l => by
    simp only [toPyL, List.countP_cons, cntL, cntL_eq d l, ← eqB_py]
    cases eqB z d <;> simp
section
variable {X : Cx} {cl : Nat → Value} {W : WX} {a b : Expr} {A B : CE} {ap cp : Pos}
theorem mt_tidx (hu : X.A.units + 65 < cLine) : MtR X "tuple.index" (rTup X.K idxD) := by
  intro pins s σ H x xs v us Q I rx rxs h
  obtain ⟨F, p, vs, l, y, d, z, rfl, rfl, sm, hs, rl, rd, e, q⟩ := h
  cases rx
  cases rxs with
  | cons ry rt =>
    rename_i uy ut
    cases rt
    unfold idxD at e
    cases q1 : lowD d 40 with
    | false => rw [q1] at e; cases e
    | true =>
      rw [q1] at e
      cases q2 : lowL l 40 with
      | false => rw [q2] at e; cases e
      | true =>
        rw [q2] at e
        cases q3 : findD d 0 l with
        | none => rw [q3] at e; cases e
        | some m =>
          rw [q3] at e
          cases e
          obtain ⟨j, w, rfl, e2, e3, e4⟩ := findD_ok d l 0 m q3
          have dl := rl.dp (lowL_pure _ 40 q2)
          have dd := rd.dp sm (low_pure _ 40 q1)
          obtain ⟨bs, r1⟩ := Dp.reads I _ y uy dd.1 ry
          obtain ⟨its, rv, ⟨⟨cls, dct, data, sls⟩, ho, hc, n, hdt⟩, hlen⟩ := I.tuple hs
          simp only at hc hdt
          subst hc hdt
          obtain ⟨as, h4⟩ := Dp.readsAll I _ _ its (dpAll_same sm dl.1) rv
          have hn : its.length = (toPyL l).length := SeqAt.ReadsAll.length _ its as h4
          have hmap : its.map (SeqAt.readOf s.heap) = toPyL l := SeqAt.readsAll_map _ its as dl.2 h4
          have hsl := sizeLine_eq
          have hz := toPyL_get2 l j w e2
          have hjl : j < its.length := by rw [hn]; exact (List.getElem?_eq_some_iff.mp hz).1
          have at_ : ∀ (m : Nat) (hm : m < its.toArray.size) (z' : PyData), (toPyL l)[m]? = some z' → SeqAt.readOf s.heap its.toArray[m] = z' := by
            intro m hm z' hz'
            have hml : m < its.length := by simpa using hm
            rw [← hmap, List.getElem?_map, List.getElem?_eq_getElem hml] at hz'
            have e1 : SeqAt.readOf s.heap its[m] = z' := Option.some.inj (show some (SeqAt.readOf s.heap its[m]) = some z' from hz')
            simpa using e1
          have hj : j < its.toArray.size := by simpa using hjl
          have room : X.A.units + 1 + min (PyData.depthAll (toPyL l)) (toPy d).depth < cLine := by
            have := low_py d 40 q1
            omega
          refine call_meets PySem.F.slot_tuple_index ⟨_, ho, rfl⟩ PySem.F.entry_tuple_index (PySem.F.args_tuple_index_2 _ _)
            (TI.tuple_indexAt p its.toArray n dct sls uy (fun u => PyData.eqv (SeqAt.readOf s.heap u) (toPy d)) j hj ?_ ?_) ⟨ho, SeqAt.items_eqAt (vs := its.toArray) (show ReadsAll s.heap its.toArray.toList (toPyL l) as by simpa using h4) r1 dl.2 dd.2 room, ?_⟩
          · show PyData.eqv (SeqAt.readOf s.heap its.toArray[j]) (toPy d) = true
            rw [at_ j hj _ hz, ← eqB_py]
            exact e3
          · intro m hm hmj
            obtain ⟨d', a1, a2⟩ : ∃ d', l[m]? = some d' ∧ (toPyL l)[m]? = some (toPy d') := by
              have : m < l.length := by
                have h5 : (toPyL l).length = l.length := by rw [← hn, ← rv.length, rl.length]
                have : m < its.length := by simpa using hm
                omega
              exact ⟨l[m], List.getElem?_eq_getElem this, toPyL_get2 l m _ (List.getElem?_eq_getElem this)⟩
            show PyData.eqv (SeqAt.readOf s.heap its.toArray[m]) (toPy d) = false
            rw [at_ m hm _ a2, ← eqB_py]
            exact e4 m d' hmj a1
          · rw [Nat.zero_add] at q
            exact ⟨.int (j : Nat), H, I.tok _, ⟨_, rfl⟩, ext_same sm q (.of (.int _))⟩
theorem mt_tcnt (hu : X.A.units + 65 < cLine) : MtR X "tuple.count" (rTup X.K cntD) := by
  intro pins s σ H x xs v us Q I rx rxs h
  obtain ⟨F, p, vs, l, y, d, z, rfl, rfl, sm, hs, rl, rd, e, q⟩ := h
  cases rx
  cases rxs with
  | cons ry rt =>
    rename_i uy ut
    cases rt
    unfold cntD at e
    cases q1 : lowD d 40 with
    | false => rw [q1] at e; cases e
    | true =>
      rw [q1] at e
      cases q2 : lowL l 40 with
      | false => rw [q2] at e; cases e
      | true =>
        rw [q2] at e
        cases e
        have dl := rl.dp (lowL_pure _ 40 q2)
        have dd := rd.dp sm (low_pure _ 40 q1)
        obtain ⟨bs, r1⟩ := Dp.reads I _ y uy dd.1 ry
        obtain ⟨its, rv, ht, hlen⟩ := I.tuple hs
        obtain ⟨as, h4⟩ := Dp.readsAll I _ _ its (dpAll_same sm dl.1) rv
        have pls : PyData.plainAll (toPyL l) = true := by
          have := PyData.plain_of_canLay0 (.list (toPyL l)) dl.2
          exact this
        refine SeqAt.count_tuple_data (s := s) (l := p) (vs := its.toArray) ht (by simpa using h4) r1 pls (PyData.plain_of_canLay0 _ dd.2) (by have := low_py d 40 q1; omega) ?_
        rw [cntL_eq]
        exact ⟨.int (cntL d l : Nat), H, I.tok _, ⟨_, rfl⟩, ext_same sm q (.of (.int _))⟩
/-- x.index(y), x.count(y): of a list or a tuple -/
def cIdx2 (A B : CE) : CE := fun e => (A e).bind fun d => match d with
  | .tup l => (B e).bind fun y => ofO (idxD l y)
  | .lst l => (B e).bind fun y => ofO (idxD l y)
  | .bor l => (B e).bind fun y => ofO (idxD l y)
  | _ => .bad
def cCnt (A B : CE) : CE := fun e => (A e).bind fun d => match d with
  | .tup l => (B e).bind fun y => ofO (cntD l y)
  | _ => .bad
theorem tup_go {f : List D → D → Option D} {σ : St} {H : Hp} {Q : VK} {F : Hp} {e : En} (st : Stt X.K F e σ H) {l : List D} (qA : A e = .ok (.tup l)) (h : PostE X.K cl W F H σ Q ((B e).bind fun y => ofO (f l y))) :
    tp X.K cl W A σ H fun x H1 => (∃ p vs, x = .ref p ∧ TupX X.K H1 p vs) ∧ tCons (tp X.K cl W B) tNil σ H1 fun xs H2 => rTup X.K f x xs H2 Q :=
  tp_ok st qA fun F1 H1 v x1 st1 r1 => by
    cases r1 with
    | tup t1 rl =>
      rename_i p vs
      refine ⟨⟨p, vs, rfl, t1.same st1.sub⟩, go1E st1 (PostE.ext (r := (B e).bind fun y => ofO (f l y)) h x1) fun d F2 H2 v2 x2 st2 r2 h2 => ?_⟩
      cases z : f l d with
      | none => rw [z] at h2; exact h2.elim
      | some w =>
        rw [z] at h2
        exact ⟨F2, p, vs, l, v2, d, w, rfl, rfl, st2.sub, SqT.same st2.sub (SqT.sameX x2.f t1), rl.same x2.f, r2, z, h2⟩
theorem pp_idx2 (hu : X.A.units + 65 < cLine) (ho : PP X cl W a A) (ha : PP X cl W b B)
    (hbase : attributeBase a "index" X.env (eval a X.env) = eval a X.env := by rfl)
    (hfew : ((backTo cp (starEach [b] X.env)).all (fun x => !x.1) && (backToKw cp (keywordEach [] X.env)).all (fun x => x.1.isSome)
      && decide ([b].length + ([] : List Keyword).length + (if ([] : List Keyword).isEmpty then 0 else 1) < 30)) = true := by rfl)
    (hline : (ap.endLine == cp.line) = true := by rfl) (hs : starEach [b] X.env = (false, eval b X.env) :: starEach [] X.env := by rfl) (hplain : (backTo cp (starEach [] X.env)).any (·.1) = false := by rfl) :
    PP X cl W (.Call (.Attribute a "index" ap) [b] [] cp) (cIdx2 A B) := by
  have r1 := pe_tm PySem.F.slot_tuple_index PySem.F.type_tuple_index (mt_tidx hu) ho (pa_cons ha pa_nil hs) hbase hfew hline hs hplain
  have r2 := pp_lidx (A := A) (B := B) hu ho ha hbase hfew hline hs hplain
  refine ⟨fun pins s σ H Q I ⟨F, e, st, h⟩ => ?_⟩
  unfold cIdx2 at h
  cases qA : A e with
  | bad => rw [qA] at h; exact h.elim
  | exc c => rw [qA] at h; exact r1.run pins s σ H Q I (tp_exc st qA h)
  | ok d =>
    rw [qA] at h
    cases d with
    | tup l => exact r1.run pins s σ H Q I (tup_go st qA h)
    | lst l => exact r2.run pins s σ H Q I ⟨F, e, st, by unfold cIdx; rw [qA]; exact h⟩
    | bor l => exact r2.run pins s σ H Q I ⟨F, e, st, by unfold cIdx; rw [qA]; exact h⟩
    | _ => exact h.elim
theorem pp_cnt (hu : X.A.units + 65 < cLine) (ho : PP X cl W a A) (ha : PP X cl W b B)
    (hbase : attributeBase a "count" X.env (eval a X.env) = eval a X.env := by rfl)
    (hfew : ((backTo cp (starEach [b] X.env)).all (fun x => !x.1) && (backToKw cp (keywordEach [] X.env)).all (fun x => x.1.isSome)
      && decide ([b].length + ([] : List Keyword).length + (if ([] : List Keyword).isEmpty then 0 else 1) < 30)) = true := by rfl)
    (hline : (ap.endLine == cp.line) = true := by rfl) (hs : starEach [b] X.env = (false, eval b X.env) :: starEach [] X.env := by rfl) (hplain : (backTo cp (starEach [] X.env)).any (·.1) = false := by rfl) :
    PP X cl W (.Call (.Attribute a "count" ap) [b] [] cp) (cCnt A B) := by
  have r1 := pe_tm PySem.F.slot_tuple_count PySem.F.type_tuple_count (mt_tcnt hu) ho (pa_cons ha pa_nil hs) hbase hfew hline hs hplain
  refine ⟨fun pins s σ H Q I ⟨F, e, st, h⟩ => ?_⟩
  unfold cCnt at h
  cases qA : A e with
  | bad => rw [qA] at h; exact h.elim
  | exc c => rw [qA] at h; exact r1.run pins s σ H Q I (tp_exc st qA h)
  | ok d =>
    rw [qA] at h
    cases d with
    | tup l => exact r1.run pins s σ H Q I (tup_go st qA h)
    | _ => exact h.elim
end
end M
namespace M
open PySem PySem.Spec PyProof.Rows L2
/-! ### t[::-1] -/
section
variable {prog : Program} {w : World} {A : Around} {E : Value → Shared → Prop} {s : Shared}
theorem part_ {v : Value} {o : Option Int} {Q : Option Int → Shared → Prop} (p : IsPart v o) (h : Q o s) : wpAny (model prog w) A (Builtin.Slice.slicePartIndex v) Q E s := HT.slicePart_ p h
theorem places_rev (n : Nat) : Builtin.Slice.slicePlaces ((n : Int) - 1) (-1) (-1) = n := by
  unfold Builtin.Slice.slicePlaces
  rw [if_neg (by decide)]
  by_cases h : (n : Int) - 1 > -1
  · rw [if_pos h]
    have : ((n : Int) - 1 - -1 - 1) / (- -1) = (n : Int) - 1 := by
      rw [show (- -1 : Int) = 1 from rfl, Int.ediv_one]; omega
    rw [this]; omega
  · rw [if_neg h]; omega
theorem rev_pick {α : Type} (xs : Array α) : ((List.range xs.size).filterMap fun (m : Nat) => xs[(((xs.size : Int) - 1) + (m : Int) * -1).toNat]?) = xs.toList.reverse := by
  have e : ∀ m ∈ List.range xs.size, (fun (m : Nat) => xs[(((xs.size : Int) - 1) + (m : Int) * -1).toNat]?) m = (fun m => xs.toList.reverse[m]?) m := fun m hm => by
    have hm := List.mem_range.mp hm
    show xs[(((xs.size : Int) - 1) + (m : Int) * -1).toNat]? = xs.toList.reverse[m]?
    rw [show (((xs.size : Int) - 1) + (m : Int) * -1).toNat = xs.size - 1 - m by omega, List.getElem?_reverse (by simpa using hm)]
    simp
  have cg : ∀ l : List Nat, (∀ m ∈ l, (fun (m : Nat) => xs[(((xs.size : Int) - 1) + (m : Int) * -1).toNat]?) m = (fun m => xs.toList.reverse[m]?) m) → l.filterMap (fun (m : Nat) => xs[(((xs.size : Int) - 1) + (m : Int) * -1).toNat]?) = l.filterMap fun m => xs.toList.reverse[m]? := fun l => by
    induction l with
    | nil => intro _; rfl
    | cons m l ih =>
      intro h
      have h0 := h m List.mem_cons_self
      simp only at h0
      rw [List.filterMap_cons, List.filterMap_cons, h0, ih fun k hk => h k (List.mem_cons_of_mem _ hk)]
  rw [cg _ e, List.range_eq_range']
  have := rng_fm xs.toList.reverse [] 0 rfl
  simpa using this
theorem getItem_rev {t sl : Addr} {items : Array Value} {vl vu vs : Value} {Q : Value → Shared → Prop} (ht : IsTup s.heap t items) (hs : s.heap.IsSliceOf sl vl vu vs) (pl : IsPart vl none) (pu : IsPart vu none) (ps : IsPart vs (some (-1))) (hsz : items.size ≤ sizeLine)
    (h : Q (.ref s.heap.objs.size) { s with heap := s.heap.push { cls := .type "tuple", data := .seq items.toList.reverse.toArray } }) : wpAny (model prog w) A (getItem (.ref t) (.ref sl)) Q E s := by
  obtain ⟨os, hos, hcs, hds⟩ := id hs
  have hTs : s.TypeIs (.ref sl) "slice" := ⟨os, hos, hcs⟩
  have hz : sizeOk (.seq items.toList.reverse.toArray) := by
    show items.toList.reverse.toArray.size ≤ sizeLine
    simpa using hsz
  unfold getItem
  try with_reducible refine wpAny_holding ?_
  first | refine wpAny_bind (wpAny_pure ?_) | skip
  refine wpAny_bind (wpAny_sequenceKey ht.typeIs (by decide) ?_)
  refine wpAny_bind (wpAny_callSpecial?_slot (name := Str.ofString "__getitem__") ht.typeIs PyProof.Rows.slot_tuple_getitem
    (wpAny_call_entry PyProof.Rows.slot_tuple_getitem ht.typeIs entry_tuple_getitem ?_ (args_tuple_getitem _ _)))
  show wpAny _ _ (Builtin.Tuple.tupleItemsOf (.ref t) >>= _) _ _ s
  refine wpAny_bind (tupleItemsOf_ ht ?_)
  refine wpAny_bind (wpAny_typeOf hTs ?_)
  rw [if_pos (by decide)]
  have ap : ∀ {A : Around} {R : Int × Int × Nat → Shared → Prop} {E : Value → Shared → Prop}, R ((items.size : Int) - 1, -1, items.size) s → wpAny (model prog w) A (Builtin.Slice.sliceApplied (.ref sl) (pure (items.size : Int))) R E s := fun {A R E} hR => by
    unfold Builtin.Slice.sliceApplied Builtin.Slice.sliceFields
    refine wpAny_bind (wpAny_bind (wpAny_field hos hds (x := vl) rfl (wpAny_bind (wpAny_field hos hds (x := vu) rfl (wpAny_bind (wpAny_field hos hds (x := vs) rfl (wpAny_pure ?_)))))))
    refine wpAny_bind (part_ ps ?_)
    show wpAny _ _ (if ((-1 : Int) == 0) = true then _ else _) _ _ s
    rw [if_neg (by decide)]
    refine wpAny_bind (part_ pl (wpAny_bind (part_ pu (wpAny_bind (wpAny_pure ?_)))))
    show wpAny _ _ (pure ((items.size : Int) - 1, (-1 : Int), Builtin.Slice.slicePlaces ((items.size : Int) - 1) (-1) (-1))) _ _ s
    rw [places_rev]
    exact wpAny_pure hR
  refine wpAny_bind (ap ?_)
  have hno : ¬ ((((items.size : Int) - 1) == 0 && (-1 : Int) == 1 && items.size == items.size) = true) := by simp
  show wpAny _ _ (if (((items.size : Int) - 1) == 0 && (-1 : Int) == 1 && items.size == items.size) = true then _ else _) _ _ s
  rw [if_neg hno, rev_pick]
  first
    | exact wpAny_bind (m := Builtin.Tuple.tupleExact _) (wpAny_newObj_type (wpAny_pure ⟨_, rfl, wpAny_pure h⟩) hz)
    | exact wpAny_bind (m := Builtin.Tuple.tupleExact _) (wpAny_newObj_type (wpAny_bind (wpAny_pure (wpAny_pure ⟨_, rfl, wpAny_pure h⟩))) hz)
    | exact wpAny_bind (wpAny_bind (m := Builtin.Tuple.tupleExact _) (wpAny_newObj_type (wpAny_pure (wpAny_pure ⟨_, rfl, wpAny_pure h⟩)) hz))
    | exact wpAny_bind (wpAny_bind (m := Builtin.Tuple.tupleExact _) (wpAny_newObj_type (wpAny_pure ⟨_, rfl, wpAny_pure h⟩) hz))
end
def tRev (K : PySem.W.Frag) (te : TE) : TE := fun σ H Q => te σ H fun x H1 => ∃ a xs, x = .ref a ∧ SqT K H1 a xs ∧ QT Q H1 xs.reverse
section
variable {X : Cx} {cl : Nat → Value} {W : WX} {a : Expr} {A : CE} {k : Nat} {p1 p2 p3 pos : Pos}
theorem pe_revX {e : Expr} {te : TE} (he : PE X e te) : PE X (.Subscript e (.Slice none none (some (.UnaryOp .USub (.Constant (.int 1) k p1) p2)) p3) pos) (tRev X.K te) := by
  refine ⟨fun pins s σ H Q I h => ?_⟩
  refine Subscript_ (thn (he.run pins s σ H _ I h) fun v s1 ⟨x, H1, I1, r1, a, xs, ex, hx, q⟩ => ?_)
  subst ex
  cases r1
  have hst : PO X (some (.UnaryOp .USub (.Constant (.int 1) k p1) p2)) (tPart (tUn (rU fun i => .int (-i)) (tC (.int 1)))) := po_some (pe_un un_neg pe_int)
  refine wpAny_Slice (thn (po_none.run pins s1 σ H1 (fun o H2 => o = none ∧ H2 = H1) I1 ⟨rfl, rfl⟩) fun vl s2 ⟨l, H2, I2, pl, el, e2⟩ => ?_)
  subst el e2
  refine thn (po_none.run pins s2 σ H2 (fun o H3 => o = none ∧ H3 = H2) I2 ⟨rfl, rfl⟩) fun vu s3 ⟨u, H3, I3, pu, eu, e3⟩ => ?_
  subst eu e3
  refine thn (hst.run pins s3 σ H3 (fun o H4 => o = some (-1) ∧ H4 = H3) I3 ⟨1, rfl, -1, rfl, rfl, rfl⟩) fun vs s4 ⟨o, H4, I4, ps, eo, e4⟩ => ?_
  subst eo e4
  have I5 : Inv X pins σ H4 { s4 with heap := s4.heap.push { cls := .type "slice", data := .fields #[vl, vu, vs] } } := I4.kept (t' := s4.toks) fun b ob q => Heap.get?_push_of_some _ q
  obtain ⟨its, r, ht, hz⟩ := I5.tuple hx
  have hlen := r.length
  show wpAny (model X.prog X.w) X.A (subscriptTail e (.Slice none none (some (.UnaryOp .USub (.Constant (.int 1) k p1) p2)) p3) (.ref a) (.ref s4.heap.objs.size)) (EP X pins σ Q) X.xe { s4 with heap := s4.heap.push { cls := .type "slice", data := .fields #[vl, vu, vs] } }
  refine tail_any (ops := [.ref a, .ref s4.heap.objs.size]) ht.typeIs (PyProof.Rows.slot_tuple_getitem.lookup) ?_ (by with_unfolding_all rfl)
  refine getItem_rev ht (Heap.IsSliceOf.new _ vl vu vs) pl pu ps (by rw [List.size_toArray]; omega) ?_
  obtain ⟨J, hn⟩ := Inv.tupX I5 r.reverse (by rw [List.length_reverse]; exact hz)
  exact ⟨.ref _, _, J, rfl, q _ _ hn rfl⟩
def revD (d : D) : Option D := match d with
  | .tup l => some (.tup l.reverse)
  | .lst l => some (.lst l.reverse)
  | .bor l => some (.lst l.reverse)
  | _ => none
theorem RdL.rev {K : PySem.W.Frag} {F : Hp} : ∀ {l : List D} {vs : List V}, RdL K F l vs → RdL K F l.reverse vs.reverse
  | _, _, .nil => .nil
  | _, _, .cons r t => by rw [List.reverse_cons, List.reverse_cons]; exact t.rev.append (.cons r .nil)
theorem pp_rev (ha : PP X cl W a A) : PP X cl W (.Subscript a (.Slice none none (some (.UnaryOp .USub (.Constant (.int 1) k p1) p2)) p3) pos) (c1 revD A) := by
  have r1 := pe_revX (k := k) (p1 := p1) (p2 := p2) (p3 := p3) (pos := pos) ha
  have r2 := pe_revL (k := k) (p1 := p1) (p2 := p2) (p3 := p3) (pos := pos) ha
  refine ⟨fun pins s σ H Q I ⟨F, e, st, h⟩ => ?_⟩
  unfold c1 at h
  cases qA : A e with
  | bad => rw [qA] at h; exact h.elim
  | exc c => rw [qA] at h; exact r1.run pins s σ H Q I (tp_exc st qA h)
  | ok d =>
    rw [qA] at h
    have lists : ∀ l, lstOf d = some l → revD d = some (.lst l.reverse) → tRevL X.K (tp X.K cl W A) σ H Q := fun l z e2 => tp_ok st qA fun F1 H1 v x1 st1 rd => by
      obtain ⟨p, vs, rfl, h1, rl⟩ := rd.lst st1.sub z
      refine ⟨p, vs, rfl, .inl (.inl h1), fun q nq => ?_⟩
      have w := Ext.put st1.sub nq (.lst vs.reverse)
      have h : PostE X.K cl W F H σ Q (ofO (revD d)) := h
      rw [e2] at h
      exact h _ _ _ (x1.trans w) (.of (.lst upd_same (rl.rev.same w.f)))
    cases d with
    | tup l =>
      refine r1.run pins s σ H Q I (tp_ok st qA fun F1 H1 v x1 st1 rd => ?_)
      cases rd with
      | tup t1 rl =>
        rename_i pa vs
        refine ⟨pa, vs, rfl, SqT.sameX st1.sub t1, fun p o np od => ?_⟩
        have w := Ext.put st1.sub np (.frz o (.tup vs.reverse))
        exact h _ _ _ (x1.trans w) (.of (.tup (.of od) (rl.rev.same w.f)))
    | lst l => exact r2.run pins s σ H Q I (lists l rfl rfl)
    | bor l => exact r2.run pins s σ H Q I (lists l rfl rfl)
    | _ => exact h.elim
end
end M
namespace M
open PySem PySem.Spec PyProof.Rows L2

/-! ### itertools.permutations -/
def nextP (n : Nat) : Nat → List Nat → List Nat → Option (List Nat × List Nat)
  | 0, _, _ => none
  | i + 1, idx, cyc => match cyc.getD i 0 - 1 == 0 with
    | true => nextP n i (idx.take i ++ idx.drop (i + 1) ++ [idx.getD i 0]) (cyc.set i (n - i))
    | false => some ((idx.set i (idx.getD (n - (cyc.getD i 0 - 1)) 0)).set (n - (cyc.getD i 0 - 1)) (idx.getD i 0), cyc.set i (cyc.getD i 0 - 1))
def permBody (np : Nat → Nat → List Nat → List Nat → Option (List Nat × List Nat)) : Builtin := fun args => do
  let (self, _) ← slotArgs "__next__" 0 args
  let items ← Builtin.Itertools.itPoolItems (← field self 0)
  let n := items.size
  let r := (← Builtin.Itertools.itIntField self 2).toNat
  let numbers ← Builtin.Itertools.itNumbersFrom self 4
  let result (indices : List Nat) : Sem Fin := do
    let t ← newTuple ((indices.take r).map fun i => items.getD i .none)
    let before ← field self 3
    setField self 3 t
    letGo [before] [t]
    ret t
  match ← Builtin.Itertools.itIntField self 1 with
  | 0 => setField self 1 (rawInt 1); result numbers
  | 1 =>
    match np n r (numbers.take n) (numbers.drop n) with
    | some (indices, cycles) => Builtin.Itertools.itSetNumbersFrom self 4 (indices ++ cycles); result indices
    | none => setField self 1 (rawInt 2); Builtin.Itertools.itStop
  | _ => rule "itertools.permutations.ended"; Builtin.Itertools.itStop
theorem perm_ex : ∃ np : Nat → Nat → List Nat → List Nat → Option (List Nat × List Nat), (∀ args, Builtin.«itertools.permutations.__next__» args = permBody np args) ∧ (∀ n idx cyc, np n 0 idx cyc = none) ∧
    (∀ n i idx cyc, np n (i + 1) idx cyc = if (cyc.getD i 0 - 1 == 0) = true then np n i (idx.take i ++ idx.drop (i + 1) ++ [idx.getD i 0]) (cyc.set i (n - i)) else some ((idx.set i (idx.getD (n - (cyc.getD i 0 - 1)) 0)).set (n - (cyc.getD i 0 - 1)) (idx.getD i 0), cyc.set i (cyc.getD i 0 - 1))) :=
  ⟨_, fun args => rfl, fun _ _ _ => rfl, fun _ _ _ _ => rfl⟩
end M
namespace M
open PySem PySem.Spec PyProof.Rows L2

/-! ### facts of the type itertools.permutations -/
theorem mro_perm : mroOf (.type "itertools.permutations") = pure [.type "itertools.permutations", .type "object"] := by rw [mroOf_type]; kernel_rfl
theorem lookup_perm_new : typeLookup (.type "itertools.permutations") "__new__" = pure (some (.builtin "itertools.permutations.__new__")) := by rw [typeLookup_type, builtinLookup_eq_fast]; kernel_rfl
theorem slot_perm_init : Slot "itertools.permutations" "__init__" "object.__init__" :=
  .of (owner := "object") (n := "__init__") (by rw [typeLookup_type, builtinLookup_eq_fast]; kernel_rfl) (by decide +kernel) (by decide +kernel) (by decide +kernel)
    (by first | exact .inl (by decide +kernel) | exact .inr (by decide +kernel)) (by rw [isSubtype_type]; kernel_rfl)
theorem sub_perm : isSubtype (.type "itertools.permutations") (.type "itertools.permutations") = pure true := by rw [isSubtype_type]; kernel_rfl
theorem called_perm : TypeCalled "itertools.permutations" "itertools.permutations.__new__" "object.__init__" :=
  ⟨by decide +kernel, by decide +kernel, ⟨_, _, mro_perm⟩, madeBy_type mro_perm lookup_perm_new (by decide +kernel), by decide +kernel, sub_perm, slot_perm_init⟩
theorem typeCall_perm_1 (a : Value) : checkTypeCall "itertools.permutations" ⟨[a], []⟩ = pure () := by kernel_rfl
theorem newCall_perm_1 (a : Value) : checkBuiltinCall "itertools.permutations.__new__" ⟨[.type "itertools.permutations", a], []⟩ = pure () := by kernel_rfl
theorem entry_perm_new : entryFor table "itertools.permutations.__new__" = some Builtin.«itertools.permutations.__new__» := entryFor_of_tree (by kernel_rfl)
theorem slot_perm_iter : Slot "itertools.permutations" "__iter__" "itertools.permutations.__iter__" :=
  .of (owner := "itertools.permutations") (n := "__iter__") (by rw [typeLookup_type, builtinLookup_eq_fast]; kernel_rfl) (by decide +kernel) (by decide +kernel) (by decide +kernel)
    (by first | exact .inl (by decide +kernel) | exact .inr (by decide +kernel)) sub_perm
theorem slot_perm_next : Slot "itertools.permutations" "__next__" "itertools.permutations.__next__" :=
  .of (owner := "itertools.permutations") (n := "__next__") (by rw [typeLookup_type, builtinLookup_eq_fast]; kernel_rfl) (by decide +kernel) (by decide +kernel) (by decide +kernel)
    (by first | exact .inl (by decide +kernel) | exact .inr (by decide +kernel)) sub_perm
theorem entry_perm_iter : entryFor table "itertools.permutations.__iter__" = some Builtin.«dict_keyiterator.__iter__» :=
  entryFor_alias (id' := "dict_keyiterator.__iter__") (by kernel_rfl) (by first | rfl | decide +kernel | (unfold String.splitOn; simp +decide [String.splitOnAux])) (by decide +kernel) (by kernel_rfl)
theorem entry_perm_next : entryFor table "itertools.permutations.__next__" = some Builtin.«itertools.permutations.__next__» := entryFor_of_tree (by kernel_rfl)
theorem owner_perm : Manifest.owners.lookup (String.ofList ['s', 'n', 'o', 'i', 't', 'a', 't', 'u', 'm', 'r', 'e', 'p', '.', 's', 'l', 'o', 'o', 't', 'r', 'e', 't', 'i'].reverse) = some Manifest.sig_itertools_permutations := by kernel_rfl
theorem args_perm_iter (a : Value) : argsOk "itertools.permutations.__iter__" ⟨[a], []⟩ := by
  unfold argsOk; rw [signature?_of (id := "itertools.permutations.__iter__") (n := ['_', '_', 'r', 'e', 't', 'i', '_', '_']) (o := ['s', 'n', 'o', 'i', 't', 'a', 't', 'u', 'm', 'r', 'e', 'p', '.', 's', 'l', 'o', 'o', 't', 'r', 'e', 't', 'i']) (by kernel_rfl) owner_perm]; kernel_rfl
theorem args_perm_next (a : Value) : argsOk "itertools.permutations.__next__" ⟨[a], []⟩ := by
  unfold argsOk; rw [signature?_of (id := "itertools.permutations.__next__") (n := ['_', '_', 't', 'x', 'e', 'n', '_', '_']) (o := ['s', 'n', 'o', 'i', 't', 'a', 't', 'u', 'm', 'r', 'e', 'p', '.', 's', 'l', 'o', 'o', 't', 'r', 'e', 't', 'i']) (by kernel_rfl) owner_perm]; kernel_rfl
theorem noDict_perm : typeHasDict (.type "itertools.permutations") = false := by decide +kernel
theorem perm_no_len : typeLookup (.type "itertools.permutations") "__len__" = pure none := by rw [typeLookup_type, builtinLookup_eq_fast]; kernel_rfl
theorem perm_no_hint : typeLookup (.type "itertools.permutations") "__length_hint__" = pure none := by rw [typeLookup_type, builtinLookup_eq_fast]; kernel_rfl

theorem next_eq (args : Args) : Builtin.«itertools.permutations.__next__» args = permBody nextP args := by
  obtain ⟨np, h1, h2, h3⟩ := perm_ex
  have e : np = nextP := by
    funext n i
    induction i with
    | zero => funext idx cyc; exact h2 n idx cyc
    | succ i ih =>
      funext idx cyc
      rw [h3, ih]
      show _ = (match cyc.getD i 0 - 1 == 0 with | true => _ | false => _)
      cases q : (cyc.getD i 0 - 1 == 0) <;> simp
  rw [h1, e]
end M
namespace M
open PySem PySem.Spec PyProof.Rows L2

def numsV (l : List Nat) : List Value := l.map fun (i : Nat) => rawInt i
def permO (pool : Addr) (st : Int) (n : Nat) (last : Value) (nums : List Nat) : Obj := { cls := .type "itertools.permutations", dict := none, data := .fields (([.ref pool, rawInt st, rawInt n, last] ++ numsV nums).toArray), slots := #[] }
def pickV (items : Array Value) (n : Nat) (idx : List Nat) : List Value := (idx.take n).map fun i => items.getD i .none
def tupO (its : List Value) : Obj := { cls := .type "tuple", data := .seq its.toArray }
theorem nums_back (l : List Nat) : (numsV l).map (fun | .int n _ => n.toNat | _ => 0) = l := by
  unfold numsV
  rw [List.map_map]
  conv => rhs; rw [← List.map_id l]
  rfl
theorem permO_set1 (pool : Addr) (st st' : Int) (n : Nat) (last : Value) (nums : List Nat) : Obj.mapFields (fun x => x.setIfInBounds 1 (rawInt st')) (permO pool st n last nums) = permO pool st' n last nums := by
  simp [Obj.mapFields, permO]
theorem permO_set3 (pool : Addr) (st : Int) (n : Nat) (last l' : Value) (nums : List Nat) : Obj.mapFields (fun x => x.setIfInBounds 3 l') (permO pool st n last nums) = permO pool st n l' nums := by
  simp [Obj.mapFields, permO]
theorem permO_nums (pool : Addr) (st : Int) (n : Nat) (last : Value) (nums nums' : List Nat) : Obj.mapFields (fun fs => fs.extract 0 4 ++ (nums'.map fun (n : Nat) => rawInt n).toArray) (permO pool st n last nums) = permO pool st n last nums' := by
  simp [Obj.mapFields, permO, numsV]
theorem upd_self' {h : Heap} {a : Addr} {f : Obj → Obj} {o o' : Obj} (ho : h.get? a = some o) (e : f o = o') (hd : (f o).isFreed = false := by rfl) : (h.update a f).get? a = some o' := by
  have := Heap.get?_update_self f ho hd
  rw [this, e]
section
variable {prog : Program} {w : World} {A : Around} {E : Value → Shared → Prop} {s : Shared}
theorem perm_result {it pool : Addr} {its : List Value} {st : Int} {n : Nat} {last : Value} {nums : List Nat} {Q : Fin → Shared → Prop} {E : Value → Shared → Prop} (hit : s.heap.get? it = some (permO pool st n last nums)) (hz : its.length ≤ 100000)
    (hQ : ∀ h', h'.get? it = some (permO pool st n (.ref s.heap.objs.size) nums) → h'.get? s.heap.objs.size = some (tupO its) → h'.objs.size = s.heap.objs.size + 1 → (∀ b o, b ≠ it → s.heap.get? b = some o → h'.get? b = some o) → Q (.done (.ret (.ref s.heap.objs.size))) { s with heap := h' }) :
    wpAny (model prog w) A (newTuple its >>= fun t => field (.ref it) 3 >>= fun before => setField (.ref it) 3 t >>= fun _ => letGo [before] [t] >>= fun _ => ret t) Q E s := by
  have hsz := sizeLine_eq
  refine wpAny_bind (wpAny_newObj_type (hd := by show its.toArray.size ≤ sizeLine; rw [List.size_toArray]; omega) ?_)
  have hit2 : (s.heap.push { cls := .type "tuple", dict := none, data := .seq its.toArray }).get? it = some (permO pool st n last nums) := Heap.get?_push_of_some _ hit
  have hlt := Heap.lt_size hit
  refine wpAny_bind (wpAny_field hit2 rfl (x := last) rfl ?_)
  refine wpAny_bind (wpAny_setField hit2 rfl (by simp [permO]) ?_)
  refine wpAny_bind (wpAny_letGo ?_)
  refine wpAny_pure ?_
  refine hQ _ (upd_self' hit2 (permO_set3 ..)) ((Heap.get?_update_other _ _ (Nat.ne_of_lt hlt)).trans (Heap.get?_push_size _ rfl)) ?_ fun b o hb e => (Heap.get?_update_other _ _ (Ne.symm hb)).trans (Heap.get?_push_of_some _ e)
  rw [Heap.size_update, Heap.size_push]
theorem perm_first {it pool : Addr} {items : Array Value} {c : Nat} {last : Value} {nums : List Nat} {Q : Option Value → Shared → Prop} (hit : s.heap.get? it = some (permO pool 0 items.size last nums)) (hp : s.heap.get? pool = some { cls := .type "tuple", data := .seq items c })
    (hz : items.size ≤ 100000)
    (hQ : ∀ h', h'.get? it = some (permO pool 1 items.size (.ref s.heap.objs.size) nums) → h'.get? s.heap.objs.size = some (tupO (pickV items items.size nums)) → h'.objs.size = s.heap.objs.size + 1 → (∀ b o, b ≠ it → s.heap.get? b = some o → h'.get? b = some o) → Q (some (.ref s.heap.objs.size)) { s with heap := h' }) :
    wpAny (model prog w) A (callSpecial? (.ref it) "__next__") Q E s := by
  have hT : s.TypeIs (.ref it) "itertools.permutations" := ⟨_, hit, rfl⟩
  refine wpAny_callSpecial?_slot (name := Str.ofString "__next__") hT slot_perm_next (wpAny_call_entry slot_perm_next hT entry_perm_next ?_ (args_perm_next _))
  rw [next_eq]
  unfold permBody
  show wpAny _ _ (field (.ref it) 0 >>= _) _ _ s
  refine wpAny_bind (wpAny_field hit rfl (x := .ref pool) rfl ?_)
  unfold Builtin.Itertools.itPoolItems
  refine wpAny_bind (wpAny_bind (wpAny_seqItems hp rfl (wpAny_pure ?_)))
  unfold Builtin.Itertools.itIntField
  refine wpAny_bind (wpAny_bind (wpAny_field hit rfl (x := rawInt items.size) rfl (wpAny_pure ?_)))
  unfold Builtin.Itertools.itNumbersFrom
  refine wpAny_bind (wpAny_bind (wpAny_load hit (wpAny_pure ?_)))
  refine wpAny_bind (wpAny_bind (wpAny_field hit rfl (x := rawInt 0) rfl (wpAny_pure ?_)))
  show wpAny _ _ (setField (.ref it) 1 (rawInt 1) >>= _) _ _ s
  refine wpAny_bind (wpAny_setField hit rfl (by simp [permO]) ?_)
  have e1 : ((([.ref pool, rawInt 0, rawInt items.size, last] ++ numsV nums).toArray.toList.drop 4).map fun | .int n _ => n.toNat | _ => 0) = nums := nums_back nums
  have e2 : (((items.size : Nat) : Int)).toNat = items.size := rfl
  have lp : (pickV items items.size nums).length ≤ 100000 := by unfold pickV; rw [List.length_map]; exact Nat.le_trans (List.length_take_le ..) hz
  show wpAny _ _ (newTuple (pickV items items.size ((([.ref pool, rawInt 0, rawInt items.size, last] ++ numsV nums).toArray.toList.drop 4).map fun | .int n _ => n.toNat | _ => 0)) >>= fun t => field (.ref it) 3 >>= fun before => setField (.ref it) 3 t >>= fun _ => letGo [before] [t] >>= fun _ => ret t) _ _ _
  rw [e1]
  refine perm_result (its := pickV items items.size nums) (st := 1) (n := items.size) (last := last) (nums := nums) (pool := pool) (s := { s with heap := s.heap.update it (Obj.mapFields fun x => x.setIfInBounds 1 (rawInt 1)) }) (upd_self' hit (permO_set1 ..)) lp fun h' h1 h2 h3 h4 => ⟨_, rfl, ?_⟩
  simp only [Heap.size_update] at h1 h2 h3 ⊢
  exact hQ h' h1 h2 h3 fun b o hb e => h4 b o hb ((Heap.get?_update_other _ _ (Ne.symm hb)).trans e)
theorem perm_next {it pool : Addr} {items : Array Value} {c : Nat} {last : Value} {idx cyc idx' cyc' : List Nat} {Q : Option Value → Shared → Prop} (hit : s.heap.get? it = some (permO pool 1 items.size last (idx ++ cyc))) (hp : s.heap.get? pool = some { cls := .type "tuple", data := .seq items c })
    (hz : items.size ≤ 100000) (hi : idx.length = items.size) (hn : nextP items.size items.size idx cyc = some (idx', cyc')) (hz' : idx'.length + cyc'.length ≤ 1000000)
    (hQ : ∀ h', h'.get? it = some (permO pool 1 items.size (.ref s.heap.objs.size) (idx' ++ cyc')) → h'.get? s.heap.objs.size = some (tupO (pickV items items.size idx')) → h'.objs.size = s.heap.objs.size + 1 → (∀ b o, b ≠ it → s.heap.get? b = some o → h'.get? b = some o) → Q (some (.ref s.heap.objs.size)) { s with heap := h' }) :
    wpAny (model prog w) A (callSpecial? (.ref it) "__next__") Q E s := by
  have hT : s.TypeIs (.ref it) "itertools.permutations" := ⟨_, hit, rfl⟩
  refine wpAny_callSpecial?_slot (name := Str.ofString "__next__") hT slot_perm_next (wpAny_call_entry slot_perm_next hT entry_perm_next ?_ (args_perm_next _))
  rw [next_eq]
  unfold permBody
  show wpAny _ _ (field (.ref it) 0 >>= _) _ _ s
  refine wpAny_bind (wpAny_field hit rfl (x := .ref pool) rfl ?_)
  unfold Builtin.Itertools.itPoolItems
  refine wpAny_bind (wpAny_bind (wpAny_seqItems hp rfl (wpAny_pure ?_)))
  unfold Builtin.Itertools.itIntField
  refine wpAny_bind (wpAny_bind (wpAny_field hit rfl (x := rawInt items.size) rfl (wpAny_pure ?_)))
  unfold Builtin.Itertools.itNumbersFrom
  refine wpAny_bind (wpAny_bind (wpAny_load hit (wpAny_pure ?_)))
  refine wpAny_bind (wpAny_bind (wpAny_field hit rfl (x := rawInt 1) rfl (wpAny_pure ?_)))
  have e1 : ((([.ref pool, rawInt 1, rawInt items.size, last] ++ numsV (idx ++ cyc)).toArray.toList.drop 4).map fun | .int n _ => n.toNat | _ => 0) = idx ++ cyc := nums_back (idx ++ cyc)
  show wpAny _ _ (match nextP items.size items.size (List.take items.size ((([.ref pool, rawInt 1, rawInt items.size, last] ++ numsV (idx ++ cyc)).toArray.toList.drop 4).map fun | .int n _ => n.toNat | _ => 0)) (List.drop items.size ((([.ref pool, rawInt 1, rawInt items.size, last] ++ numsV (idx ++ cyc)).toArray.toList.drop 4).map fun | .int n _ => n.toNat | _ => 0)) with
    | some (indices, cycles) => Builtin.Itertools.itSetNumbersFrom (.ref it) 4 (indices ++ cycles) >>= fun _ => _
    | none => _) _ _ s
  rw [e1, ← hi, List.take_left, List.drop_left, hi, hn]
  show wpAny _ _ (Builtin.Itertools.itSetNumbersFrom (.ref it) 4 (idx' ++ cyc') >>= fun _ => _) _ _ s
  unfold Builtin.Itertools.itSetNumbersFrom
  have hsz := sizeLine_eq
  refine wpAny_bind (wpAny_updateFields hit rfl ?_ ?_)
  · have lp : (pickV items items.size idx').length ≤ 100000 := by unfold pickV; rw [List.length_map]; exact Nat.le_trans (List.length_take_le ..) hz
    refine perm_result (its := pickV items items.size idx') (st := 1) (n := items.size) (last := last) (nums := idx' ++ cyc') (pool := pool) (s := { s with heap := s.heap.update it (Obj.mapFields fun fs => fs.extract 0 4 ++ ((idx' ++ cyc').map fun (n : Nat) => rawInt n).toArray) }) (upd_self' hit (permO_nums ..)) lp fun h' h1 h2 h3 h4 => ⟨_, rfl, ?_⟩
    simp only [Heap.size_update] at h1 h2 h3 ⊢
    exact hQ h' h1 h2 h3 fun b o hb e => h4 b o hb ((Heap.get?_update_other _ _ (Ne.symm hb)).trans e)
  · simp
    omega
theorem perm_end {it pool : Addr} {items : Array Value} {c : Nat} {last : Value} {idx cyc : List Nat} {Q : Option Value → Shared → Prop} (hh : A.handled = none) (hit : s.heap.get? it = some (permO pool 1 items.size last (idx ++ cyc))) (hp : s.heap.get? pool = some { cls := .type "tuple", data := .seq items c })
    (hi : idx.length = items.size) (hn : nextP items.size items.size idx cyc = none)
    (hQ : ∀ e h', CpRep.StopE e h' → Heap.ExtBut it s.heap h' → (∃ o, h'.get? it = some o) → E e { s with heap := h' }) : wpAny (model prog w) A (callSpecial? (.ref it) "__next__") Q E s := by
  have hT : s.TypeIs (.ref it) "itertools.permutations" := ⟨_, hit, rfl⟩
  refine wpAny_callSpecial?_slot (name := Str.ofString "__next__") hT slot_perm_next (wpAny_call_entry slot_perm_next hT entry_perm_next ?_ (args_perm_next _))
  rw [next_eq]
  unfold permBody
  show wpAny _ _ (field (.ref it) 0 >>= _) _ _ s
  refine wpAny_bind (wpAny_field hit rfl (x := .ref pool) rfl ?_)
  unfold Builtin.Itertools.itPoolItems
  refine wpAny_bind (wpAny_bind (wpAny_seqItems hp rfl (wpAny_pure ?_)))
  unfold Builtin.Itertools.itIntField
  refine wpAny_bind (wpAny_bind (wpAny_field hit rfl (x := rawInt items.size) rfl (wpAny_pure ?_)))
  unfold Builtin.Itertools.itNumbersFrom
  refine wpAny_bind (wpAny_bind (wpAny_load hit (wpAny_pure ?_)))
  refine wpAny_bind (wpAny_bind (wpAny_field hit rfl (x := rawInt 1) rfl (wpAny_pure ?_)))
  have e1 : ((([.ref pool, rawInt 1, rawInt items.size, last] ++ numsV (idx ++ cyc)).toArray.toList.drop 4).map fun | .int n _ => n.toNat | _ => 0) = idx ++ cyc := nums_back (idx ++ cyc)
  show wpAny _ _ (match nextP items.size items.size (List.take items.size ((([.ref pool, rawInt 1, rawInt items.size, last] ++ numsV (idx ++ cyc)).toArray.toList.drop 4).map fun | .int n _ => n.toNat | _ => 0)) (List.drop items.size ((([.ref pool, rawInt 1, rawInt items.size, last] ++ numsV (idx ++ cyc)).toArray.toList.drop 4).map fun | .int n _ => n.toNat | _ => 0)) with
    | some (indices, cycles) => _
    | none => setField (.ref it) 1 (rawInt 2) >>= fun _ => Builtin.Itertools.itStop) _ _ s
  rw [e1, ← hi, List.take_left, List.drop_left, hi, hn]
  refine wpAny_bind (wpAny_setField hit rfl (by simp [permO]) ?_)
  show wpAny _ _ (newExc (.type "StopIteration") [] >>= _) _ _ _
  refine wpAny_bind ?_
  simp only [newExc, newTuple]
  refine wpAny_bind (wpAny_newObj_type ?_ (by size_fits))
  refine wpAny_bind (m := firstArgMember _ _) (wpAny_of_eq (a := Value.none) (by first | rfl | (simp only [firstArgMember]; rfl)) ?_)
  refine wpAny_newObj_type ?_ (by size_fits)
  simp only [raiseNew]
  refine wpAny_bind (wpAny_handled ?_)
  first | rw [show A.in1.handled = none from hh] | rw [hh]
  refine wpAny_bind (wpAny_pure (wpAny_throw ?_))
  exact hQ _ _ ⟨_, _, _, rfl, Heap.get?_push_size _ rfl, rfl, rfl, rfl⟩ ((Heap.SameBut.extBut (Heap.SameBut.update ..)).push _ |>.push _) ⟨_, Heap.get?_push_of_some _ (Heap.get?_push_of_some _ (upd_self' hit (permO_set1 ..)))⟩
end
end M
namespace M
open PySem PySem.Spec PyProof.Rows L2

def permI : Nat → Nat → List Nat → List Nat → Option (List (List Nat))
  | 0, _, _, _ => none
  | f + 1, n, idx, cyc => match nextP n n idx cyc with
    | none => some []
    | some (i2, c2) => (match Nat.beq i2.length n with
      | true => (match Nat.beq c2.length n with | true => (match permI f n i2 c2 with | some r => some (i2 :: r) | none => none) | false => none)
      | false => none)
inductive TupsAt (h : Heap) : Nat → List Value → List (List Value) → Prop
  | nil {lo : Nat} : TupsAt h lo [] []
  | cons {lo a : Nat} {its : List Value} {us : List Value} {vss : List (List Value)} (le : lo ≤ a) (e : h.get? a = some (tupO its)) (t : TupsAt h (a + 1) us vss) : TupsAt h lo (.ref a :: us) (its :: vss)
section
variable {prog : Program} {w : World} {A : Around} {E : Value → Shared → Prop} {s : Shared}
theorem pn_ok {it : Addr} {Q : Option Value → Shared → Prop} (h : wpAny (model prog w) A (callSpecial? (.ref it) "__next__") (fun o s' => ∃ v, o = some v ∧ Q (some v) s') (fun e s' => ∃ a o vs, e = .ref a ∧ s'.heap.get? a = some o ∧ o.cls = .type "StopIteration" ∧ o.data = .fields vs ∧ vs[5]? = some Value.none ∧ Q none s') s) :
    wpAny (model prog w) A (pyNext (.ref it)) Q E s := by
  unfold pyNext
  refine wpAny_bind (wpAny_attempt (wpAny_mono h (fun o s' ⟨v, e, q⟩ => ?_) fun e s' ⟨a, o, vs, e1, h1, h2, h3, h4, q⟩ => ?_))
  · subst e
    exact wpAny_pure q
  · subst e1
    exact wpAny_bind (wpAny_isInstance (T := "StopIteration") (b := true) ⟨o, h1, h2⟩ isSubtype_stop (wpAny_pure q))
abbrev lstO (acc : List Value) (c : Nat) : Obj := { cls := .type "list", dict := none, data := .seq acc.toArray c, slots := #[] }
theorem perm_loop {S it pool : Addr} {items : Array Value} {c0 : Nat} {res : Value} {R : Result → Shared → Prop} (hh : A.handled = none) (hSi : S ≠ it) (hSp : S ≠ pool) (hip : it ≠ pool) (hz : items.size ≤ 100000) :
    ∀ (f : Nat) (idx cyc : List Nat) (rest : List (List Nat)), permI f items.size idx cyc = some rest → ∀ (s : Shared) (acc : List Value) (c : Nat) (last : Value), idx.length = items.size →
      s.heap.get? it = some (permO pool 1 items.size last (idx ++ cyc)) → s.heap.get? pool = some { cls := .type "tuple", data := .seq items c0 } → s.heap.get? S = some (lstO acc c) → acc.length + rest.length ≤ 1000000 →
      (∀ h' us c', TupsAt h' s.heap.objs.size us (rest.map (pickV items items.size)) → h'.get? S = some (lstO (acc ++ us) c') → (∀ b o, b ≠ S → b ≠ it → s.heap.get? b = some o → h'.get? b = some o) → (∃ o, h'.get? it = some o) → R (.ok (.ret res)) { s with heap := h' }) →
      codeAny (model prog w) A (.builtin "list.extend.loop" ⟨[.ref S, .ref it, res], []⟩) R s := by
  intro f
  induction f with
  | zero => intro idx cyc rest h; cases h
  | succ f ih =>
    intro idx cyc rest h s acc c last hi hit hp hS hlen hR
    refine codeAny_builtin PySem.F.entry_extend_loop ?_
    rw [Around.under_plainId PySem.F.plain_extend_loop _]
    show wpAny _ A.in1 (pyNext (.ref it) >>= _) _ _ s
    refine wpAny_bind (pn_ok ?_)
    unfold permI at h
    cases q : nextP items.size items.size idx cyc with
    | none =>
      rw [q] at h
      cases h
      refine perm_end (by simpa using hh) hit hp hi q fun e h' st eb ex => ?_
      obtain ⟨a, o, vs, e1, h1, h2, h3, h4⟩ := st
      refine ⟨a, o, vs, e1, h1, h2, h3, h4, wpAny_pure ?_⟩
      exact hR h' [] c .nil (by rw [List.append_nil]; exact eb S _ hSi hS) (fun b o _ hb e => eb b o hb e) ex
    | some x =>
      obtain ⟨i2, c2⟩ := x
      rw [q] at h
      simp only at h
      cases q1 : Nat.beq i2.length items.size with
      | false => rw [q1] at h; cases h
      | true =>
        rw [q1] at h
        simp only at h
        cases q2 : Nat.beq c2.length items.size with
        | false => rw [q2] at h; cases h
        | true =>
          rw [q2] at h
          simp only at h
          cases q3 : permI f items.size i2 c2 with
          | none => rw [q3] at h; cases h
          | some r =>
            rw [q3] at h
            cases h
            have l1 := Nat.eq_of_beq_eq_true q1
            have l2 := Nat.eq_of_beq_eq_true q2
            have hsz := sizeLine_eq
            simp only [List.length_cons] at hlen
            refine perm_next hit hp hz hi q (by omega) fun h' a1 a2 a3 a4 => ⟨_, rfl, ?_⟩
            have hS' := a4 S _ hSi hS
            show wpAny _ A.in1 (updateSeq S (·.push (.ref s.heap.objs.size)) >>= _) _ _ _
            refine wpAny_bind (wpAny_updateSeq hS' rfl (wpAny_pure ⟨plainId_quiet PySem.F.plain_extend_loop _, ?_⟩) (by rw [List.size_toArray]; omega) (by simp; omega))
            have hS2 : (h'.update S (Obj.mapSeq (·.push (.ref s.heap.objs.size)))).get? S = some (lstO (acc ++ [.ref s.heap.objs.size]) _) := (Heap.get?_update_self _ hS' rfl).trans (by simp [Obj.mapSeq, lstO]; rfl)
            have oth : ∀ b o, b ≠ S → h'.get? b = some o → (h'.update S (Obj.mapSeq (·.push (.ref s.heap.objs.size)))).get? b = some o := fun b o hb e => (Heap.get?_update_other _ _ (Ne.symm hb)).trans e
            have hlt := Heap.lt_size hit
            have hltS := Heap.lt_size hS
            refine ih i2 c2 r q3 { s with heap := h'.update S (Obj.mapSeq (·.push (.ref s.heap.objs.size))) } (acc ++ [.ref s.heap.objs.size]) _ _ l1 (oth _ _ (Ne.symm hSi) a1) (oth _ _ (Ne.symm hSp) (a4 _ _ (Ne.symm hip) hp)) hS2 (by simp; omega) fun h2 us c' t g k ex => ?_
            have sz : (h'.update S (Obj.mapSeq (·.push (.ref s.heap.objs.size)))).objs.size = s.heap.objs.size + 1 := by rw [Heap.size_update, a3]
            rw [List.append_assoc] at g
            refine hR h2 (.ref s.heap.objs.size :: us) c' (.cons (Nat.le_refl _) (k _ _ (Nat.ne_of_gt hltS) (Nat.ne_of_gt hlt) (oth _ _ (Nat.ne_of_gt hltS) a2)) (by rw [← sz]; exact t)) g (fun b o hb hb2 e => k b o hb hb2 (oth b o hb (a4 b o hb2 e))) ex
end
end M
namespace M
open PySem PySem.Spec PyProof.Rows L2
def KeepH (h h' : Heap) : Prop := ∀ b o, h.get? b = some o → h'.get? b = some o
def permNums (n : Nat) : List Nat := List.range n ++ (List.range n).map fun i => n - i
def permNewR (t : Addr) (R : Result → Shared → Prop) (s : Shared) : Prop := ∃ T o items n, (T = "list" ∨ T = "tuple") ∧ s.heap.get? t = some o ∧ o.cls = .type T ∧ o.data = .seq items n ∧ items.size ≤ 100000 ∧
  ∀ hm h1 h' p it, KeepH s.heap hm → hm.objs.size ≤ p → KeepH hm h1 → h1.get? p = some (tupO items.toList) → h1.objs.size ≤ it → KeepH h1 h' → h'.get? it = some (permO p 0 items.size .none (permNums items.size)) → R (.ok (.ret (.ref it))) { s with heap := h' }
theorem bind_perm (t : Value) : Builtin.Itertools.itBindNamed "permutations" ["iterable", "r"] 1 2 [t] [] = pure [some t, none] := by rfl
theorem class_perm {prog : Program} {w : World} {A : Around} {E : Value → Shared → Prop} {s : Shared} {rest : List Value} {Q : Value × List Value → Shared → Prop} (h : Q (.type "itertools.permutations", rest) s) :
    wpAny (model prog w) A (Builtin.Itertools.itClassAndRest "permutations" ⟨.type "itertools.permutations" :: rest, []⟩) Q E s := by
  unfold Builtin.Itertools.itClassAndRest
  have hsub := sub_perm
  have e : ("itertools." ++ "permutations") = "itertools.permutations" := by decide
  simp only [e]
  obtain ⟨hp, g, d, tk, os⟩ := s
  wp_walk
  exact h
theorem meets_perm_new (t : Addr) : Meets (Builtin.«itertools.permutations.__new__» ⟨[.type "itertools.permutations", .ref t], []⟩) (fun _ R s => permNewR t R s) :=
  .of_wp fun prog w A R s h => by
    obtain ⟨T, o, items, n, hT, ho, hc, hd, hz, h⟩ := h
    have hsz := sizeLine_eq
    unfold Builtin.«itertools.permutations.__new__»
    refine wpAny_bind (class_perm ?_)
    show wpAny _ _ (Builtin.Itertools.itBindNamed "permutations" ["iterable", "r"] 1 2 [.ref t] [] >>= _) _ _ s
    rw [bind_perm]
    refine wpAny_bind (wpAny_pure ?_)
    show wpAny _ _ (collect (.ref t) >>= _) _ _ s
    refine wpAny_bind (wpAny_collect_seq t hT ho hc hd (fun h' k => ?_) (by omega))
    refine wpAny_bind (wpAny_pure ?_)
    have hl : items.toList.length = items.size := Array.length_toList
    refine wpAny_ite_false (by simp) ?_
    show wpAny _ _ (if Builtin.Itertools.itTooMany _ = true then _ else _) _ _ _
    have hm : Builtin.Itertools.itTooMany ((items.toList.length : Nat) : Int) = false := by
      unfold Builtin.Itertools.itTooMany
      rw [hl]
      exact decide_eq_false (by omega)
    rw [hm, if_neg (by decide)]
    have hr : (((items.toList.length : Nat) : Int)).toNat = items.size := by rw [Int.toNat_natCast, hl]
    show wpAny _ _ (newTuple items.toList >>= fun tv => Builtin.Itertools.itNewRecord (.type "itertools.permutations") ([tv, rawInt (if ((items.toList.length : Nat) : Int).toNat > items.toList.length then 2 else 0), rawInt ((((items.toList.length : Nat) : Int)).toNat : Nat), .none]
      ++ (List.range items.toList.length).map (fun (i : Nat) => rawInt i) ++ (List.range ((items.toList.length : Nat) : Int).toNat).map fun (i : Nat) => rawInt (((items.toList.length : Nat) : Int) - i)) >>= fun r => ret r) _ _ _
    rw [hr, hl, if_neg (Nat.lt_irrefl _)]
    refine wpAny_bind (wpAny_newObj_type ?_ (by show items.toList.toArray.size ≤ sizeLine; rw [List.size_toArray, hl]; omega))
    unfold Builtin.Itertools.itNewRecord
    rw [noDict_perm]
    have es : ([Value.ref h'.objs.size, rawInt 0, rawInt items.size, Value.none] ++ (List.range items.size).map (fun (i : Nat) => rawInt i) ++ (List.range items.size).map fun (i : Nat) => rawInt ((items.size : Int) - i))
        = ([Value.ref h'.objs.size, rawInt 0, rawInt items.size, Value.none] ++ numsV (List.range items.size ++ (List.range items.size).map fun i => items.size - i)) := by
      unfold numsV
      rw [List.map_append, List.map_map, List.append_assoc]
      congr 2
      refine List.map_congr_left fun i hi => ?_
      have := List.mem_range.mp hi
      show rawInt ((items.size : Int) - i) = rawInt ((items.size - i : Nat) : Int)
      congr 1
      omega
    show wpAny _ _ ((newObj (.type "itertools.permutations") (.fields (([Value.ref h'.objs.size, rawInt 0, rawInt items.size, Value.none] ++ (List.range items.size).map (fun (i : Nat) => rawInt i) ++ (List.range items.size).map fun (i : Nat) => rawInt ((items.size : Int) - i))).toArray) >>= fun r => ret r)) _ _ _
    rw [es]
    refine wpAny_bind (wpAny_newObj_type ?_ (by simp [sizeOk, numsV]; omega))
    refine wpAny_pure ?_
    exact ⟨_, rfl, h h' _ _ h'.objs.size _ k (Nat.le_refl _) (fun b o e => Heap.get?_push_of_some _ e) (Heap.get?_push_size _ rfl) (Nat.le_refl _) (fun b o e => Heap.get?_push_of_some _ e) (Heap.get?_push_size _ rfl)⟩
section
variable {prog : Program} {w : World} {A : Around} {E : Value → Shared → Prop} {s : Shared}
theorem call_perm {T : String} {t : Addr} {o : Obj} {items : Array Value} {n : Nat} {Q : Value → Shared → Prop} (hT : T = "list" ∨ T = "tuple") (ho : s.heap.get? t = some o) (hc : o.cls = .type T) (hd : o.data = .seq items n) (hz : items.size ≤ 100000)
    (h : ∀ hm h1 h' p it, KeepH s.heap hm → hm.objs.size ≤ p → KeepH hm h1 → h1.get? p = some (tupO items.toList) → h1.objs.size ≤ it → KeepH h1 h' → h'.get? it = some (permO p 0 items.size .none (permNums items.size)) → Q (.ref it) { s with heap := h' }) :
    wpAny (model prog w) A (call (.type "itertools.permutations") [.ref t]) Q E s := by
  refine callType_new called_perm (by decide +kernel) (typeCall_perm_1 _) (newCall_perm_1 _) (fun obj => PySem.F.args_object_init_2 obj _) entry_perm_new (meets_perm_new t) ⟨T, o, items, n, hT, ho, hc, hd, hz, fun hm h1 h' p it a1 a2 a3 a4 a5 a6 a7 => ?_⟩
  exact ⟨⟨_, a7, rfl⟩, h hm h1 h' p it a1 a2 a3 a4 a5 a6 a7⟩
theorem iter_perm {it pool : Addr} {st : Int} {n : Nat} {last : Value} {nums : List Nat} {Q : Value → Shared → Prop} (hit : s.heap.get? it = some (permO pool st n last nums)) (h : Q (.ref it) s) : wpAny (model prog w) A (pyIter (.ref it)) Q E s := by
  have hT : s.TypeIs (.ref it) "itertools.permutations" := ⟨_, hit, rfl⟩
  refine wpAny_pyIter_slot hT slot_perm_iter (wpAny_call_entry slot_perm_iter hT entry_perm_iter ?_ (args_perm_iter _))
  show wpAny _ _ (ret (.ref it)) _ _ s
  exact wpAny_pure ⟨_, rfl, "itertools.permutations", _, hT, slot_perm_next.lookup, h⟩
/-- list.extend's loop from the start -/
theorem perm_loop0 {S it pool : Addr} {items : Array Value} {c0 : Nat} {res : Value} {R : Result → Shared → Prop} (hh : A.handled = none) (hSi : S ≠ it) (hSp : S ≠ pool) (hip : it ≠ pool) (hz : items.size ≤ 100000) {f : Nat} {rest : List (List Nat)}
    (hf : permI f items.size (List.range items.size) ((List.range items.size).map fun i => items.size - i) = some rest) {c : Nat} {last : Value} (hit : s.heap.get? it = some (permO pool 0 items.size last (permNums items.size))) (hp : s.heap.get? pool = some { cls := .type "tuple", data := .seq items c0 }) (hS : s.heap.get? S = some (lstO [] c)) (hlen : rest.length ≤ 100000)
    (hR : ∀ h' us c', TupsAt h' s.heap.objs.size us ((List.range items.size :: rest).map (pickV items items.size)) → h'.get? S = some (lstO us c') → (∀ b o, b ≠ S → b ≠ it → s.heap.get? b = some o → h'.get? b = some o) → (∃ o, h'.get? it = some o) → R (.ok (.ret res)) { s with heap := h' }) :
    codeAny (model prog w) A (.builtin "list.extend.loop" ⟨[.ref S, .ref it, res], []⟩) R s := by
  refine codeAny_builtin PySem.F.entry_extend_loop ?_
  rw [Around.under_plainId PySem.F.plain_extend_loop _]
  show wpAny _ A.in1 (pyNext (.ref it) >>= _) _ _ s
  refine wpAny_bind (pn_ok ?_)
  have hsz := sizeLine_eq
  refine perm_first hit hp hz fun h' a1 a2 a3 a4 => ⟨_, rfl, ?_⟩
  have hS' := a4 S _ hSi hS
  show wpAny _ A.in1 (updateSeq S (·.push (.ref s.heap.objs.size)) >>= _) _ _ _
  refine wpAny_bind (wpAny_updateSeq hS' rfl (wpAny_pure ⟨plainId_quiet PySem.F.plain_extend_loop _, ?_⟩) (by simp) (by simp))
  have hS2 : (h'.update S (Obj.mapSeq (·.push (.ref s.heap.objs.size)))).get? S = some (lstO [.ref s.heap.objs.size] _) := (Heap.get?_update_self _ hS' rfl).trans (by simp [Obj.mapSeq, lstO]; rfl)
  have oth : ∀ b o, b ≠ S → h'.get? b = some o → (h'.update S (Obj.mapSeq (·.push (.ref s.heap.objs.size)))).get? b = some o := fun b o hb e => (Heap.get?_update_other _ _ (Ne.symm hb)).trans e
  have hlt := Heap.lt_size hit
  have hltS := Heap.lt_size hS
  have e5 : pickV items items.size (permNums items.size) = pickV items items.size (List.range items.size) := by
    unfold pickV permNums
    rw [List.take_append_of_le_length (by simp)]
  rw [e5] at a2
  refine perm_loop hh hSi hSp hip hz f _ _ rest hf { s with heap := h'.update S (Obj.mapSeq (·.push (.ref s.heap.objs.size))) } [.ref s.heap.objs.size] _ _ (by simp) (oth _ _ (Ne.symm hSi) a1) (oth _ _ (Ne.symm hSp) (a4 _ _ (Ne.symm hip) hp)) hS2 (by simp; omega) fun h2 us c' t g k ex => ?_
  have sz : (h'.update S (Obj.mapSeq (·.push (.ref s.heap.objs.size)))).objs.size = s.heap.objs.size + 1 := by rw [Heap.size_update, a3]
  exact hR h2 (.ref s.heap.objs.size :: us) c' (.cons (Nat.le_refl _) (k _ _ (Nat.ne_of_gt hltS) (Nat.ne_of_gt hlt) (oth _ _ (Nat.ne_of_gt hltS) a2)) (by rw [← sz]; exact t)) g (fun b o hb hb2 e => k b o hb hb2 (oth b o hb (a4 b o hb2 e))) ex
end
end M
namespace M
open PySem PySem.Spec PyProof.Rows L2

section
variable {prog : Program} {w : World} {A : Around} {E : Value → Shared → Prop} {s : Shared}
theorem perm_extend {S it pool : Addr} {items : Array Value} {c0 c : Nat} {res last : Value} {R : Result → Shared → Prop} (hh : A.handled = none) (hSi : S ≠ it) (hSp : S ≠ pool) (hip : it ≠ pool) (hz : items.size ≤ 100000) {f : Nat} {rest : List (List Nat)}
    (hf : permI f items.size (List.range items.size) ((List.range items.size).map fun i => items.size - i) = some rest) (hit : s.heap.get? it = some (permO pool 0 items.size last (permNums items.size))) (hp : s.heap.get? pool = some { cls := .type "tuple", data := .seq items c0 }) (hS : s.heap.get? S = some { cls := .type "list", data := .seq #[] c }) (hlen : rest.length ≤ 100000)
    (hR : ∀ h' us c', TupsAt h' s.heap.objs.size us ((List.range items.size :: rest).map (pickV items items.size)) → h'.get? S = some (lstO us c') → (∀ b o, b ≠ S → b ≠ it → s.heap.get? b = some o → h'.get? b = some o) → (∃ o, h'.get? it = some o) → R (.ok (.ret res)) { s with heap := h' }) :
    wpAny (model prog w) A.in1 (Builtin.List.listExtendWith (.ref S) (.ref it) res)
      (fun fin s' => match fin with | .done f => R (.ok f) s' | .again c' => c'.quiet = true ∧ codeAny (model prog w) A c' R s') (fun e s' => R (.error e) s') s := by
  have hT : s.TypeIs (.ref it) "itertools.permutations" := ⟨_, hit, rfl⟩
  unfold Builtin.List.listExtendWith
  refine wpAny_bind (wpAny_typeOf hT ?_)
  have h1 : Builtin.List.listSameRef (.ref S) (.ref it) = false := by simp [Builtin.List.listSameRef, hSi]
  have h2 : (Value.type "itertools.permutations" == Value.type "list") = false := by decide
  have h3 : (Value.type "itertools.permutations" == Value.type "tuple") = false := by decide
  simp only [h1, h2, h3, Bool.or_false, Bool.false_eq_true, if_false]
  refine wpAny_bind (iter_perm hit ?_)
  refine wpAny_bind (wpAny_holding ?_)
  unfold Builtin.List.listLengthHint
  refine wpAny_bind (wpAny_specialOf hT perm_no_len ?_)
  show wpAny _ A.in1 (specialOf (Value.ref it) (Str.ofString "__length_hint__") >>= _) _ _ _
  refine wpAny_bind (wpAny_specialOf hT perm_no_hint ?_)
  refine wpAny_pure ?_
  show wpAny _ A.in1 (rule "list.extend.makes-room" >>= fun _ => Builtin.List.listTouch (.ref S) >>= fun _ =>
    again (.builtin "list.extend.loop" ⟨[.ref S, .ref it, res], []⟩)) _ _ _
  refine wpAny_bind (wpAny_rule ?_)
  refine wpAny_bind ?_
  show wpAny _ A.in1 (updateSeq S (·.push .none) >>= fun _ => updateSeq S (·.pop)) _ _ _
  refine wpAny_bind (wpAny_updateSeq hS rfl ?_)
  have hS₂ := Heap.get?_update_self (Obj.mapSeq (·.push Value.none)) hS rfl
  refine wpAny_updateSeq (hz := by seq_fits) hS₂ rfl ?_
  have hS₃ := Heap.get?_update_self (Obj.mapSeq (·.pop)) hS₂ rfl
  have oth : ∀ b o, b ≠ S → s.heap.get? b = some o → ((s.heap.update S (Obj.mapSeq (·.push Value.none))).update S (Obj.mapSeq (·.pop))).get? b = some o :=
    fun b o hb e => (Heap.get?_update_other _ _ (Ne.symm hb)).trans ((Heap.get?_update_other _ _ (Ne.symm hb)).trans e)
  refine wpAny_pure ⟨plainId_quiet PySem.F.plain_extend_loop _, perm_loop0 (s := { s with heap := (s.heap.update S (Obj.mapSeq (·.push Value.none))).update S (Obj.mapSeq (·.pop)) }) hh hSi hSp hip hz hf (oth _ _ (Ne.symm hSi) hit) (oth _ _ (Ne.symm hSp) hp) hS₃ hlen fun h' us c' t g k ex => ?_⟩
  have sz : ((s.heap.update S (Obj.mapSeq (·.push Value.none))).update S (Obj.mapSeq (·.pop))).objs.size = s.heap.objs.size := by rw [Heap.size_update, Heap.size_update]
  exact hR h' us c' (by rw [← sz]; exact t) g (fun b o hb hb2 e => k b o hb hb2 (oth b o hb e)) ex
theorem call_list_perm {it pool : Addr} {items : Array Value} {c0 : Nat} {last : Value} {Q : Value → Shared → Prop} (hh : A.handled = none) (hip : it ≠ pool) (hz : items.size ≤ 100000) {f : Nat} {rest : List (List Nat)}
    (hf : permI f items.size (List.range items.size) ((List.range items.size).map fun i => items.size - i) = some rest) (hit : s.heap.get? it = some (permO pool 0 items.size last (permNums items.size))) (hp : s.heap.get? pool = some { cls := .type "tuple", data := .seq items c0 }) (hlen : rest.length ≤ 100000)
    (hQ : ∀ h' us c', TupsAt h' (s.heap.objs.size + 1) us ((List.range items.size :: rest).map (pickV items items.size)) → h'.get? s.heap.objs.size = some (lstO us c') → (∀ b o, b ≠ it → s.heap.get? b = some o → h'.get? b = some o) → (∃ o, h'.get? it = some o) → Q (.ref s.heap.objs.size) { s with heap := h' }) :
    wpAny (model prog w) A (call (.type "list") [.ref it]) Q E s := by
  have hlt := Heap.lt_size hit
  have hlp := Heap.lt_size hp
  refine callType_codes (Q₁ := fun obj s₁ => obj = .ref s.heap.objs.size ∧ s₁ = { s with heap := s.heap.push { cls := .type "list", data := .seq #[] } }) PySem.F.called_list (PySem.F.typeCall_list_1 _) PySem.F.entry_list_init
    (code_list_new _ ⟨rfl, rfl⟩) fun obj s₁ h₁ => ?_
  obtain ⟨rfl, rfl⟩ := h₁
  have hS : (s.heap.push { cls := .type "list", data := .seq #[] }).get? s.heap.objs.size = some { cls := .type "list", data := .seq #[] } := Heap.get?_push_size _ rfl
  refine ⟨⟨_, hS, rfl⟩, PySem.F.args_list_init_2 _ _, ?_⟩
  show wpAny _ A.in1.in1 (do let old ← Builtin.List.listItems (.ref s.heap.objs.size); Builtin.List.listUpdate (.ref s.heap.objs.size) (fun _ => #[]); letGo old.toList.reverse; Builtin.List.listExtendWith (.ref s.heap.objs.size) (.ref it) .none) _ _ _
  refine wpAny_bind ?_
  unfold Builtin.List.listItems
  refine wpAny_bind (wpAny_seqItems hS rfl (wpAny_pure ?_))
  show wpAny _ A.in1.in1 (updateSeq s.heap.objs.size (fun _ => #[]) >>= fun _ => letGo (#[] : Array Value).toList.reverse >>= fun _ => Builtin.List.listExtendWith (.ref s.heap.objs.size) (.ref it) .none) _ _ _
  refine wpAny_bind (wpAny_updateSeq hS rfl ?_)
  have hS₂ := Heap.get?_update_self (Obj.mapSeq (fun _ => (#[] : Array Value))) hS rfl
  have oth : ∀ b o, b ≠ s.heap.objs.size → s.heap.get? b = some o → ((s.heap.push { cls := .type "list", data := .seq #[] }).update s.heap.objs.size (Obj.mapSeq (fun _ => #[]))).get? b = some o :=
    fun b o hb e => (Heap.get?_update_other _ _ (Ne.symm hb)).trans (Heap.get?_push_of_some _ e)
  refine wpAny_bind (wpAny_letGo ?_)
  refine perm_extend (by simpa using hh) (Nat.ne_of_gt hlt) (Nat.ne_of_gt hlp) hip hz hf (oth _ _ (Nat.ne_of_lt hlt) hit) (oth _ _ (Nat.ne_of_lt hlp) hp) hS₂ hlen fun h' us c' t g k ex => ?_
  have sz : ((s.heap.push { cls := .type "list", data := .seq #[] }).update s.heap.objs.size (Obj.mapSeq (fun _ => (#[] : Array Value)))).objs.size = s.heap.objs.size + 1 := by rw [Heap.size_update, Heap.size_push]
  exact ⟨rfl, hQ h' us c' (by rw [← sz]; exact t) g (fun b o hb e => k b o (Nat.ne_of_lt (Heap.lt_size e)) hb (oth b o (Nat.ne_of_lt (Heap.lt_size e)) e)) ex⟩
end
end M
namespace M
open PySem PySem.Spec PyProof.Rows L2

def pickL (ys : List V) (n : Nat) (ix : List Nat) : List V := (ix.take n).map fun i => ys.getD i .non
theorem pick_vals {ys : List V} {its : List Value} (r : Vals ys its) (n : Nat) (ix : List Nat) : Vals (pickL ys n ix) (pickV its.toArray n ix) := by
  unfold pickL pickV
  generalize ix.take n = jx
  induction jx with
  | nil => exact .nil
  | cons i jx ih =>
    refine .cons ?_ ih
    show RelV (ys.getD i .non) (its.toArray.getD i .none)
    rw [List.getD_eq_getElem?_getD]
    cases q : ys[i]? with
    | none =>
      have h1 : its.toArray.getD i .none = .none := by
        have : its.length ≤ i := by rw [← r.length]; exact List.getElem?_eq_none_iff.mp q
        simp [Array.getD, Nat.not_lt.mpr this]
      rw [h1]
      rfl
    | some x =>
      obtain ⟨u, hu, ru⟩ := r.get q
      have h1 : its.toArray.getD i .none = u := by
        obtain ⟨hl, e⟩ := List.getElem?_eq_some_iff.mp hu
        simp [Array.getD, hl, e]
      rw [h1]
      exact ru
def PermHO (it p n : Nat) : HO := .ext fun h => h.get? it = some (permO p 0 n .none (permNums n))
inductive LayT : Hp → List V → List (List V) → Hp → Prop
  | nil {H : Hp} : LayT H [] [] H
  | cons {H H' : Hp} {a : Addr} {o : Obj} {xs : List V} {us : List V} {xss : List (List V)} (np : H a = none) (od : o.dict = none) (t : LayT (upd H a (.frz o (.tup xs))) us xss H') : LayT H (.ref a :: us) (xs :: xss) H'
section
variable {X : Cx}
theorem cr_perm : CallR X (.type "itertools.permutations") (fun vs H Q => ∃ p ys, vs = [V.ref p] ∧ (SqT X.K H p ys ∨ SqL X.K H p ys) ∧ ys.length ≤ 100000 ∧ ∀ pool it its, H pool = none → (upd H pool (.frz (tupO its) (.tup ys))) it = none → Vals ys its → Q (.ref it) (upd (upd H pool (.frz (tupO its) (.tup ys))) it (PermHO it pool ys.length))) := by
  intro pins s σ H vs us Q I r h
  obtain ⟨p, ys, rfl, hq, hn, q⟩ := h
  rw [Vals.ref1 r]
  have hsz := sizeLine_eq
  obtain ⟨its, rv, hobj⟩ : ∃ (its : List Value), Vals ys its ∧ ∃ T o n, (T = "list" ∨ T = "tuple") ∧ s.heap.get? p = some o ∧ o.cls = .type T ∧ o.data = .seq its.toArray n := by
    rcases hq with h | h
    · obtain ⟨its, rv, ⟨o, ho, hc, n, hd⟩, _⟩ := I.tuple h
      exact ⟨its, rv, "tuple", o, n, .inr rfl, ho, hc, hd⟩
    · obtain ⟨its, rv, pl, _⟩ := I.list h
      obtain ⟨o, ho, hc, n, hd⟩ := pl.isList
      exact ⟨its, rv, "list", o, n, .inl rfl, ho, hc, hd⟩
  obtain ⟨T, o, n, hT, ho, hc, hd⟩ := hobj
  have hl : its.toArray.size = ys.length := by rw [List.size_toArray, rv.length]
  refine call_perm hT ho hc hd (by omega) fun hm h1 h' pool it a1 a2 a3 a4 a5 a6 a7 => ?_
  have I2 := I.kept (t' := s.toks) a1
  have I3 := I2.laid (a := pool) (o := .frz (tupO its) (.tup ys)) (t' := s.toks) a3 a2 ⟨a4, by omega, its, rv, ⟨_, a4, rfl, _, rfl⟩⟩
  rw [hl] at a7
  have I4 := I3.laid (a := it) (o := PermHO it pool ys.length) (t' := s.toks) a6 a5 ⟨a7, ⟨_, a7⟩, fun _ _ e k => k _ e⟩
  exact ⟨.ref it, _, I4, rfl, q pool it its (I2.hok.fresh a2) (I3.hok.fresh a5) rv⟩
theorem lay_tups {pins : List (Addr × Obj)} {σ : L2.St} {hF : Heap} {S : Addr} : ∀ {lo : Nat} {us : List Value} {vss : List (List Value)}, TupsAt hF lo us vss → ∀ {xss : List (List V)}, Paired Vals xss vss → (∀ xs ∈ xss, xs.length ≤ sizeLine) → S < lo → ∀ {H : Hp} {s : Shared}, Inv X pins σ H s → KeepH s.heap hF →
    (∀ b, lo ≤ b → s.heap.get? b = none ∧ H b = none) → s.heap.get? S = none → H S = none →
    ∃ (G : Heap) (H' : Hp) (vs : List V), LayT H vs xss H' ∧ Vals vs us ∧ Inv X pins σ H' { s with heap := G } ∧ KeepH G hF ∧ G.get? S = none ∧ H' S = none := by
  intro lo us vss t
  induction t with
  | nil =>
    intro xss hx _ _ H s I k _ nS hS
    cases hx
    exact ⟨s.heap, H, [], .nil, .nil, I, k, nS, hS⟩
  | @cons lo a its us vss le e t ih =>
    intro xss hx hz hlo H s I k fr nS hS
    cases hx with
    | @cons xs _ xss _ rv hx =>
      obtain ⟨G, g1, g2⟩ := restrict hF fun b => decide (b < a + 1 ∧ b ≠ S)
      have kG : KeepH s.heap G := fun b o hb => by
        have h1 : b < lo := Nat.lt_of_not_le fun z => by rw [(fr b z).1] at hb; cases hb
        have h2 : b ≠ S := fun z => by rw [z, nS] at hb; cases hb
        rw [g1 b (decide_eq_true ⟨Nat.lt_succ_of_lt (Nat.lt_of_lt_of_le h1 le), h2⟩)]
        exact k b o hb
      have kF : KeepH G hF := fun b o hb => by
        by_cases c : b < a + 1 ∧ b ≠ S
        · rw [← g1 b (decide_eq_true c)]; exact hb
        · rw [g2 b (decide_eq_false c)] at hb; cases hb
      have haS : a ≠ S := Nat.ne_of_gt (Nat.lt_of_lt_of_le hlo le)
      have ga : G.get? a = some (tupO its) := (g1 a (decide_eq_true ⟨Nat.lt_succ_self _, haS⟩)).trans e
      have I2 := I.laidN (a := a) (o := .frz (tupO its) (.tup xs)) (t' := s.toks) kG (fr a le).1 (fr a le).2 ⟨ga, hz xs List.mem_cons_self, its, rv, ⟨_, ga, rfl, _, rfl⟩⟩
      obtain ⟨G', H', vs, l1, l2, l3, l4, l5, l6⟩ := ih hx (fun y hy => hz y (List.mem_cons_of_mem _ hy)) (Nat.lt_succ_of_lt (Nat.lt_of_lt_of_le hlo le)) I2 kF (fun b hb => ⟨g2 b (decide_eq_false fun c => absurd hb (Nat.not_le_of_lt c.1)), by rw [upd_ne (Nat.ne_of_gt hb)]; exact (fr b (Nat.le_trans le (Nat.le_of_succ_le hb))).2⟩) (g2 S (decide_eq_false fun c => c.2 rfl)) (by rw [upd_ne (Ne.symm haS)]; exact hS)
      exact ⟨G', H', .ref a :: vs, .cons (fr a le).2 rfl l1, .cons rfl l2, l3, l4, l5, l6⟩
def XX : HO := .ext fun _ => True
theorem cr_list_perm (hc : X.calm = true) : CallR X (.type "list") (fun vs H Q => ∃ it pool its ys f rest, vs = [V.ref it] ∧ H it = some (PermHO it pool ys.length) ∧ H pool = some (.frz (tupO its) (.tup ys)) ∧ ys.length ≤ 100000 ∧ rest.length ≤ 100000 ∧ permI f ys.length (List.range ys.length) ((List.range ys.length).map fun i => ys.length - i) = some rest ∧
    ∀ us H' S, LayT (upd H it XX) us ((List.range ys.length :: rest).map (pickL ys ys.length)) H' → H' S = none → us.length ≤ sizeLine → Q (.ref S) (upd H' S (.lst us))) := by
  intro pins s σ H vs us Q I r h
  obtain ⟨it, pool, its, ys, f, rest, rfl, hit, hpl, hz, hr, hf, q⟩ := h
  rw [Vals.ref1 r]
  have hsz := sizeLine_eq
  obtain ⟨hi, _, _⟩ := I.hok it _ hit
  obtain ⟨hp, _, its', rv', ⟨o, ho, hc', n, hd⟩⟩ := I.hok pool _ hpl
  rw [hp] at ho
  cases ho
  have e : its.toArray = its'.toArray := by cases hd; rfl
  have e2 : its = its' := by simpa using e
  subst e2
  have hl : its.toArray.size = ys.length := by rw [List.size_toArray, rv'.length]
  have hip : it ≠ pool := ne_of hit hpl (by intro z; cases z)
  refine call_list_perm (items := its.toArray) (c0 := 0) (f := f) (rest := rest) (I.ok.hd hc) hip (by omega) (by rw [hl]; exact hf) (by rw [hl]; exact hi) hp hr fun hF vs' c' t g k ex => ?_
  rw [hl] at t
  have hlt := Heap.lt_size hi
  obtain ⟨G, g1, g2⟩ := restrict hF fun b => decide (b < s.heap.objs.size)
  have kF : KeepH G hF := fun b o hb => by
    by_cases c : b < s.heap.objs.size
    · rw [← g1 b (decide_eq_true c)]; exact hb
    · rw [g2 b (decide_eq_false c)] at hb; cases hb
  have I1 : Inv X pins σ (upd H it XX) { s with heap := G } := I.write (x := it) (e := it) (o := XX) (t' := s.toks) (by rw [hit]; trivial) (.inl rfl) (fun b u hb e => by rw [g1 b (decide_eq_true (Heap.lt_size e))]; exact k b u hb e) (by rw [g1 it (decide_eq_true hlt)]; exact ex)
    ⟨trivial, by rw [g1 it (decide_eq_true hlt)]; exact ex, fun _ _ _ _ => trivial⟩
  have fr : ∀ b, s.heap.objs.size ≤ b → G.get? b = none ∧ (upd H it XX) b = none := fun b hb => ⟨g2 b (decide_eq_false (Nat.not_lt.mpr hb)), by rw [upd_ne (Nat.ne_of_gt (Nat.lt_of_lt_of_le hlt hb))]; exact I.hok.fresh hb⟩
  have pv : ∀ ixs : List (List Nat), Paired Vals (ixs.map (pickL ys ys.length)) (ixs.map (pickV its.toArray ys.length)) := fun ixs => by
    induction ixs with
    | nil => exact .nil
    | cons i ixs ih => exact .cons (pick_vals rv' _ i) ih
  have pz : ∀ xs ∈ (List.range ys.length :: rest).map (pickL ys ys.length), xs.length ≤ sizeLine := fun xs hx => by
    obtain ⟨ix, _, rfl⟩ := List.mem_map.mp hx
    unfold pickL
    rw [List.length_map]
    have := List.length_take_le ys.length ix
    omega
  obtain ⟨G', H', us', l1, l2, l3, l4, l5, l6⟩ := lay_tups t (pv _) pz (Nat.lt_succ_self _) I1 kF (fun b hb => fr b (Nat.le_of_succ_le hb)) (fr _ (Nat.le_refl _)).1 (fr _ (Nat.le_refl _)).2
  have hlen : us'.length ≤ sizeLine := by
    have lay_len : ∀ {H H' : Hp} {us : List V} {xss : List (List V)}, LayT H us xss H' → us.length = xss.length := fun {H H' us xss} l => by
      induction l with
      | nil => rfl
      | cons _ _ _ ih => simp [ih]
    rw [lay_len l1]
    simp
    omega
  have J := l3.laidN (a := s.heap.objs.size) (o := .lst us') (t' := s.toks) l4 l5 l6 ⟨hlen, vs', c', l2, g⟩
  exact ⟨.ref s.heap.objs.size, _, J, rfl, q us' H' _ l1 l6 hlen⟩
end
end M
namespace M
open PySem PySem.Spec PyProof.Rows L2

def pickD (l : List D) (n : Nat) (ix : List Nat) : List D := (ix.take n).map fun i => l.getD i .non
def prmD (l : List D) : Option (List D) := match Nat.ble l.length 1000 with
  | true => (match permI 6000 l.length (List.range l.length) ((List.range l.length).map fun i => l.length - i) with
    | some rest => (match Nat.ble rest.length 100000 with | true => some ((List.range l.length :: rest).map fun ix => .tup (pickD l l.length ix)) | false => none)
    | none => none)
  | false => none
def nPerm (A : CE) : CA := fun e => (A e).bind fun d => match toLst d with
  | some l => ofO (prmD l)
  | none => .bad
theorem RdL.getD' {K : PySem.W.Frag} {F : Hp} : ∀ {l : List D} {vs : List V}, RdL K F l vs → ∀ i : Nat, Rd K F (l.getD i .non) (vs.getD i .non)
  | _, _, .nil, i => by simp; exact .non
  | _, _, .cons r t, 0 => by simp; exact r
  | _, _, .cons r t, i + 1 => by simpa using RdL.getD' t i
theorem RdL.pick {K : PySem.W.Frag} {F : Hp} {l : List D} {vs : List V} (r : RdL K F l vs) (n : Nat) (ix : List Nat) : RdL K F (pickD l n ix) (pickL vs n ix) := by
  unfold pickD pickL
  generalize ix.take n = jx
  induction jx with
  | nil => exact .nil
  | cons i jx ih => exact .cons (r.getD' i) ih
theorem lay_rd {K : PySem.W.Frag} {l : List D} {ys : List V} {n : Nat} {H H' : Hp} {us : List V} {xss : List (List V)} (t : LayT H us xss H') : ∀ {ixs : List (List Nat)} {F : Hp}, xss = ixs.map (pickL ys n) → Same F H → RdL K F l ys →
    ∃ F', Ext F H F' H' ∧ RdL K F' (ixs.map fun ix => .tup (pickD l n ix)) us := by
  induction t with
  | nil =>
    intro ixs F e sm rl
    cases ixs with
    | nil => exact ⟨F, Ext.refl sm, .nil⟩
    | cons _ _ => cases e
  | @cons H H' a o xs us xss np od t ih =>
    intro ixs F e sm rl
    cases ixs with
    | nil => cases e
    | cons ix ixs =>
      rw [List.map_cons] at e
      obtain ⟨e1, e2⟩ := List.cons.inj e
      subst e1
      have w := Ext.put sm np (.frz o (.tup (pickL ys n ix)))
      obtain ⟨F', x, r⟩ := ih e2 w.sub (rl.same w.f)
      refine ⟨F', w.trans x, .cons (Rd.same x.f (.tup (.of od) ?_)) r⟩
      exact (rl.pick n ix).same w.f
section
variable {X : Cx} {cl : Nat → Value} {W : WX} {a e : Expr} {es : List Expr} {A : CE} {p p2 p3 pos : Pos} {x T : Str} {r : List V → Hp → VK → Prop} {t : TA}
theorem pe_callGT {x : Str} {T : String} (hc : CallR X (.type T) r) (hg : Gl X x) (hm : X.mg x = some (.type T)) (ha : PA X (e :: es) t) (hdb : (x == ("__debug__" : Str)) = false := by decide)
    (he : starEach (e :: es) X.env = (false, eval e X.env) :: starEach es X.env := by rfl) (hpl : (backTo pos (starEach es X.env)).any (·.1) = false := by rfl) : PE X (.Call (.Name x p) (e :: es) [] pos) (tCB r t) := by
  refine ⟨fun pins s σ H Q I h => ?_⟩
  refine wpAny_Call_Name_kw (ld_glob I hg hm ?_ hdb)
  exact PyProof.Rows.callWith_type1 (thn (ha.run pos pins s σ H _ I h) fun us s1 ⟨vs, H1, I1, r1, q1⟩ => hc pins s1 σ H1 vs us Q I1 r1 q1) he hpl
theorem ppn_perm {y : Str} (hc : X.calm = true) (hl : Gl X "list") (ml : X.mg "list" = none) (hy : Gl X y) (my : X.mg y = some (.type "itertools.permutations")) (ha : PP X cl W a A) (hdb : (y == ("__debug__" : Str)) = false := by decide)
    (h1 : starEach [.Call (.Name y p) [a] [] p2] X.env = (false, eval (.Call (.Name y p) [a] [] p2) X.env) :: starEach [] X.env := by rfl) (h2 : starEach [a] X.env = (false, eval a X.env) :: starEach [] X.env := by rfl)
    (h3 : (backTo pos (starEach [] X.env)).any (·.1) = false := by rfl) (h4 : (backTo p2 (starEach [] X.env)).any (·.1) = false := by rfl) :
    PPN X cl W (.Call (.Name "list" p3) [.Call (.Name y p) [a] [] p2] [] pos) (nPerm A) :=
  PE.imp (pe_callTy (cr_list_perm hc) hl ml rfl (pa_cons (pe_callGT cr_perm hy my (pa_cons ha pa_nil h2) hdb h2 h4) pa_nil h1) (by decide) (by decide) h1 h3) fun σ H Q ⟨F, e, st, h⟩ => by
    refine go1N st h fun d F1 H1 v x1 st1 r1 h1 => ?_
    cases z : toLst d with
    | none => rw [z] at h1; exact h1.elim
    | some l =>
      rw [z] at h1
      simp only at h1
      cases y : prmD l with
      | none => rw [y] at h1; exact h1.elim
      | some m =>
        rw [y] at h1
        unfold prmD at y
        cases q1 : Nat.ble l.length 1000 with
        | false => rw [q1] at y; cases y
        | true =>
          rw [q1] at y
          simp only at y
          cases q2 : permI 6000 l.length (List.range l.length) ((List.range l.length).map fun i => l.length - i) with
          | none => rw [q2] at y; cases y
          | some rest =>
            rw [q2] at y
            simp only at y
            cases q3 : Nat.ble rest.length 100000 with
            | false => rw [q3] at y; cases y
            | true =>
              rw [q3] at y
              cases y
              obtain ⟨p, ys, rfl, hs, rl⟩ := r1.toL st1.sub z
              have hn := rl.length
              have b1 := Nat.le_of_ble_eq_true q1
              refine ⟨p, ys, rfl, hs, by omega, fun pool it its n1 n2 rv => ⟨it, pool, its, ys, 6000, rest, rfl, upd_same, ?_, by omega, Nat.le_of_ble_eq_true q3, by rw [← hn]; exact q2, fun us H' S lay nS hlen => ?_⟩⟩
              · rw [upd_ne (ne_of_none upd_same n2)]
                exact upd_same
              · rw [upd_upd] at lay
                have w1 := Ext.add st1.sub n1 (.frz (tupO its) (.tup ys))
                have w2 := Ext.add w1.sub n2 XX
                obtain ⟨F', x3, rr⟩ := lay_rd (K := X.K) (l := l) lay rfl w2.sub rl
                rw [← hn] at rr
                exact h1 F' H' S us ((w1.trans w2).trans x3) nS rr hlen
end
end M
namespace M
open PySem PySem.Spec PyProof.Rows L2
section
variable {X : Cx} {cl : Nat → Value} {W : WX} {elt tgt iter : Expr} {ifs : List Expr} {scope : Scope} {own : List (Str × Nat)} {pos : Pos} {A : CA} {G : CG} {T : CT} {E : CE}
theorem tLc_of (hi : PPI X cl W tgt iter A) : ∀ σ H Q, tn X.K cl W (nLc A (own.map (·.2)) G T E) σ H Q →
    tLc (fun σ H R => ∃ F e, Stt X.K F e σ H ∧ PostI X.K cl W tgt F H σ R (A e)) (fun v σ H Q => ∃ F en d e', Stt X.K F en σ H ∧ RdG X.K F tgt d v ∧ G d en = some e' ∧ ∀ σ', Stt X.K F e' σ' H → OwnKeep en σ e' σ' → L2.wipe σ' (own.map (·.2)) = L2.wipe σ (own.map (·.2)) → Q σ' H) (tt X.K cl W0 T) (tp X.K cl W0 E) (own.map (·.2)) σ H Q := fun σ H Q ⟨F, e, st, h⟩ => by
  refine ⟨F, e, st, ?_⟩
  unfold nLc at h
  cases qA : A e with
  | exc c => rw [qA] at h; exact h
  | bad => rw [qA] at h; exact h
  | ok l =>
    rw [qA] at h
    simp only [Res.bind] at h
    cases qr : lcL G T E (wipeE e (own.map (·.2))) l with
    | none => rw [qr] at h; exact h.elim
    | some fin =>
      rw [qr] at h
      cases qz : Nat.ble l.length 1000000 with
      | false => simp only [qz] at h; exact h.elim
      | true =>
        simp only [qz] at h
        intro J F1 H1 x1 wk D nD
        have st1 := st.ext x1
        have hline := line_ok qz
        refine ⟨fun i m H => LcI X.K G T E (wipeE e (own.map (·.2))) l fin F1 H1 D i m H, ⟨l.length, ?_⟩, fun i m H2 w => ?_⟩
        · refine ⟨by omega, F1, [], [], fin, Same.refl _, ?_, ?_, fun a o q => .inl q, ?_, upd_same, .nil, by rw [List.drop_zero]; exact qr, rfl, Nat.le_refl _⟩
          · exact (Ext.add x1.sub nD (.lst [])).sub
          · exact (Ext.add x1.sub nD (.lst [])).h
          · exact x1.sub.free nD
        · obtain ⟨le, F2, accd, acc, r, s12, s2, hh, nw, fD, hD, rd, q, efin, hlen⟩ := w
          obtain ⟨w1, w2, w3⟩ := wk F2 H2 s12 s2
          by_cases hi : i < l.length
          · refine .inr ⟨w1 i hi, fun H' => LcI X.K G T E (wipeE e (own.map (·.2))) l fin F1 H1 D (i + 1) (m - 1) H', fun H' w => ⟨m - 1, by omega, w⟩, fun x H3 y => ?_⟩
            obtain ⟨d, F3, ed, x3, rx⟩ := w3 i x H3 hi y
            have el : l.drop i = d :: l.drop (i + 1) := by
              rw [List.drop_eq_getElem_cons hi]
              have : l[i] = d := by rw [List.getElem?_eq_getElem hi] at ed; exact Option.some.inj ed
              rw [this]
            rw [el] at q
            simp only [lcL] at q
            -- the state ahead of the turn
            have x13 : Ext F1 H1 F3 H3 := by
              refine ⟨s12.trans x3.f, hh.trans x3.h, x3.sub, fun a o z => ?_⟩
              rcases x3.new a o z with z | z
              · exact nw a o z
              · exact .inr (hh.free z)
            have nD3 : F3 D = none := by
              cases z : F3 D with
              | none => rfl
              | some o =>
                rcases x3.new D o z with z | z
                · rw [fD] at z; cases z
                · rw [hD] at z; cases z
            have hD3 := x3.h _ _ hD
            have st3 := st1.ext x13
            obtain ⟨st4, _⟩ := st3.wipe (own.map (·.2))
            split at q
            · cases q
            · rename_i e1 qG
              refine ⟨F3, _, d, e1, st4, rx, qG, fun σ' st5 ok5 hw => ⟨by rw [hw, wipe_wipe], F3, e1, st5, ?_⟩⟩
              split at q
              · rename_i b qT
                rw [qT]
                intro F4 H4 x4
                have x14 := x13.trans x4
                have nD4 : F4 D = none := by
                  cases z : F4 D with
                  | none => rfl
                  | some o =>
                    rcases x4.new D o z with z | z
                    · rw [nD3] at z; cases z
                    · rw [hD3] at z; cases z
                have hD4 := x4.h _ _ hD3
                split at q
                · refine iteT ⟨F4, e1, st5.ext x4, ?_⟩
                  split at q
                  · rename_i xv qE
                    rw [qE]
                    intro F5 H5 v x5 rv
                    have x15 := x14.trans x5
                    have nD5 : F5 D = none := by
                      cases z : F5 D with
                      | none => rfl
                      | some o =>
                        rcases x5.new D o z with z | z
                        · rw [nD4] at z; cases z
                        · rw [hD4] at z; cases z
                    have hD5 := x5.h _ _ hD4
                    split at q
                    · rename_i qS
                      split at q
                      · rename_i r' qr'
                        cases q
                        refine ⟨acc, hD5, by omega, ⟨by omega, F5, accd ++ [xv], acc ++ [v], r', x15.f, fun a o z => ?_, fun a o z => ?_, x15.new, nD5, upd_same, (rd.same ((x3.f.trans x4.f).trans x5.f)).append (.cons (rv.rd qS) .nil), qr', by rw [efin, List.append_assoc]; rfl, by simp; omega⟩⟩
                        · have hne : a ≠ D := fun c => by rw [c, nD5] at z; cases z
                          rw [upd_ne hne]; exact x15.sub _ _ z
                        · have hne : a ≠ D := fun c => by rw [c, nD] at z; cases z
                          rw [upd_ne hne]; exact x15.h _ _ z
                      · cases q
                    · cases q
                  · cases q
                · refine iteF ⟨by omega, F4, accd, acc, r, x14.f, x14.sub, x14.h, x14.new, nD4, hD4, rd.same (x3.f.trans x4.f), q, efin, by omega⟩
              · cases q
          · refine .inl ⟨w2 i (by omega), ?_⟩
            have el : l.drop i = [] := List.drop_eq_nil_of_le (by omega)
            rw [el] at q
            cases q
            rw [List.append_nil] at efin
            subst efin
            -- the heap without the new list
            have key : H2 = upd (fun b => if b = D then none else H2 b) D (.lst acc) := by
              funext b
              by_cases hb : b = D
              · subst hb; rw [upd_same, hD]
              · rw [upd_ne hb]; simp [hb]
            rw [key]
            refine h F2 _ D acc ⟨x1.f.trans s12, fun a o z => ?_, fun a o z => ?_, fun a o z => ?_⟩ (by simp) rd (by omega)
            · have hne : a ≠ D := fun c => by rw [c] at z; rw [x1.h _ _ z] at nD; cases nD
              simp only [hne, if_false]; exact hh _ _ (x1.h _ _ z)
            · have hne : a ≠ D := fun c => by rw [c, fD] at z; cases z
              simp only [hne, if_false]; exact s2 _ _ z
            · rcases nw a o z with z | z
              · exact x1.new a o z
              · exact .inr (x1.h.free z)
end
section
variable {X : Cx} {cl : Nat → Value} {W : WX} {F0 H0 : Hp} {a : Expr} {A : CE} {pos cp ap p1 : Pos} {x : Str} {i : Nat}
/-- x = [.. for ..] on one line, x a local -/
theorem pps_setLcN {elt tgt iter : Expr} {ifs : List Expr} {scope : Scope} {own : List (Str × Nat)} {G : CG} {T : CT} {E : CE} {A : CA} {pos' lp : Pos} (hc : X.calm = true) (hN : X.N.Nodup) (hi : X.N[i]? = some x) (hx : X.env.scope.names.lookup x = some .local) (hsw : swapsWith (.ListComp elt [⟨tgt, iter, ifs, 0⟩] scope lp) (some (.Name x pos')) pos.line X.env = pure true)
    (hit : PPI X cl W tgt iter A) (ok : BlkOk X.N X.env.scope scope own)
    (hg : ∀ (s : Shared) (H : Hp) (C : Addr) (cl' : List (Str × Addr)) (fp : List Addr), PPGw (X.blk s H scope (compEnvC scope cl' C X.env) fp) (own.map (·.2)) tgt G)
    (ht : ∀ (s : Shared) (H : Hp) (C : Addr) (cl' : List (Str × Addr)) (fp : List Addr), PPTs (X.blk s H scope (compEnvC scope cl' C X.env) fp) cl W0 ifs T)
    (he : ∀ (s : Shared) (H : Hp) (C : Addr) (cl' : List (Str × Addr)) (fp : List Addr), PP (X.blk s H scope (compEnvC scope cl' C X.env) fp) cl W0 elt E) (hs : ∀ x, foldedSetIterable iter X.env x = pure x := by intro _; rfl) :
    PPS X cl W F0 H0 (.Assign [.Name x pos'] (.ListComp elt [⟨tgt, iter, ifs, 0⟩] scope lp) pos) (fun e => inE i e (sSetN i (nLc A (own.map (·.2)) G T E) e)) := by
  have h0 := ps_setLc (g := fun v σ H Q => ∃ F en d e', Stt X.K F en σ H ∧ RdG X.K F tgt d v ∧ G d en = some e' ∧ ∀ σ', Stt X.K F e' σ' H → OwnKeep en σ e' σ' → L2.wipe σ' (own.map (·.2)) = L2.wipe σ (own.map (·.2)) → Q σ' H)
    (tt := tt X.K cl W0 T) (te := tp X.K cl W0 E) hc hN hi hx hsw hit ok hg ht he hs
  have h1 := PS.imp (t' := tAsg (tn X.K cl W (nLc A (List.map (fun x : Str × Nat => x.2) own) G T E)) (gName i)) h0 fun Dn σ H h => tLc_of hit σ H _ (show tn X.K cl W (nLc A (List.map (fun x : Str × Nat => x.2) own) G T E) σ H _ from h)
  refine PS.imp h1 fun Dn σ H ⟨F, e, s, h⟩ => ?_
  obtain ⟨hl, h⟩ := inE_ok h
  refine goSN s h fun l F1 H1 p vs x1 s1 np r z h1 => ?_
  exact h1 _ _ _ (Same.refl _) (own_set s1 hl np r)
end
end M
namespace M
open PySem PySem.Spec PyProof.Rows L2

section
variable {K : PySem.W.Frag} {cl : Nat → Value} {W : WX} {F0 H0 F H F' H' : Hp} {e e' : En} {σ σ' : L2.St}
theorem goSE2 {A : CE} {R : VK} {Dn : Ends} {f : D → RS} (s : StS K F0 H0 F e σ H) (h : PostS K cl W F0 H0 F Dn (rE (A e) e f))
    (k : ∀ d F' H' v, Ext F H F' H' → StS K F0 H0 F' e σ H' → RdT K F' H' d v → PostS K cl W F0 H0 F' Dn (f d) → R v H') : tp K cl W A σ H R := by
  refine ⟨F, e, s.st, ?_⟩
  cases q : A e with
  | ok d => rw [q] at h; exact fun F' H' v x r => k d F' H' v x (s.grow x) r (PostS.grow (r := f d) _ _ _ _ _ x.f h)
  | exc c => rw [q] at h; exact fun F' H' x => h F' σ H' x.f (s.grow x)
  | bad => rw [q] at h; exact h
theorem goSN2 {A : CA} {R : VK} {Dn : Ends} {f : List D → RS} (s : StS K F0 H0 F e σ H) (h : PostS K cl W F0 H0 F Dn (rA (A e) e f))
    (k : ∀ l F' H' p vs, Ext F H F' H' → StS K F0 H0 F' e σ H' → H' p = none → RdL K F' l vs → vs.length ≤ sizeLine → PostS K cl W F0 H0 F' Dn (f l) → R (.ref p) (upd H' p (.lst vs))) : tn K cl W A σ H R := by
  refine ⟨F, e, s.st, ?_⟩
  cases q : A e with
  | ok d => rw [q] at h; exact fun F' H' p vs x np r z => k d F' H' p vs x (s.grow x) np r z (PostS.grow (r := f d) _ _ _ _ _ x.f h)
  | exc c => rw [q] at h; exact fun F' H' x => h F' σ H' x.f (s.grow x)
  | bad => rw [q] at h; exact h
theorem Ext.stay {p : Addr} {o : HO} (x : Ext F H F' H') (nF : F p = none) (hp : H p = some o) : F' p = none := by
  cases q : F' p with
  | none => rfl
  | some u =>
    rcases x.new p u q with z | z
    · rw [nF] at z; cases z
    · rw [hp] at z; cases z
/-- a list that no slot holds is put into a slot as one's own -/
theorem own_put {i : Nat} {p : Addr} {vs : List V} {l : List D} (s1 : StS K F0 H0 F e σ H) (hl : i < e.length) (hp : H p = some (.lst vs)) (nF : F p = none) (n0 : H0 p = none) (r : RdL K F l vs)
    (ap : ∀ (j : Nat) (l3 : Sl) (b : Addr), l3.isOwn = true → i ≠ j → e[j]? = some l3 → σ[j]? = some (some (.ref b)) → b ≠ p) : StS K F0 H0 F (e.set i (.own l)) (σ.set i (some (.ref p))) H :=
  s1.put hl ⟨p, vs, rfl, hp, nF, r⟩ (fun _ a h => by cases h; exact n0) fun _ j t b ho hj q1 q2 h => ap j t b ho hj q1 q2 (by cases h; rfl)
/-- the refs of one's own slots stand in the heap -/
theorem own_ne {p : Addr} (s : StS K F0 H0 F e σ H) (np : H p = none) (j : Nat) (l3 : Sl) (b : Addr) (ho : l3.isOwn = true) (q1 : e[j]? = some l3) (q2 : σ[j]? = some (some (.ref b))) : b ≠ p := s.ne np j l3 b ho q1 q2
end
def sParDN (i j : Nat) (A : CE) (B : CA) : CS := fun e => inE j e (rE (A e) e fun d => match d.solid with
  | true => rA (B e) e fun l => .nx ((e.set i (.dat d)).set j (.own l))
  | false => .bad)
def sParND (i j : Nat) (A : CA) (B : CE) : CS := fun e => inE i e (rA (A e) e fun l => rE (B e) e fun d => match d.solid with
  | true => .nx ((e.set i (.own l)).set j (.dat d))
  | false => .bad)
def sParNN (i j : Nat) (A : CA) (B : CA) : CS := fun e => inE i e (inE j e (rA (A e) e fun l => rA (B e) e fun l2 => .nx ((e.set i (.own l)).set j (.own l2))))
section
variable {X : Cx} {cl : Nat → Value} {W : WX} {F0 H0 : Hp} {a b : Expr} {A : CE} {B L : CA} {pos : Pos}
theorem pps_parDN {i j : Nat} {x y : Str} {px py pt : Pos} {kt k2 pt2} (hc : X.calm = true) (hN : X.N.Nodup) (hi : X.N[i]? = some x) (hj : X.N[j]? = some y) (hij : i ≠ j)
    (hx : X.env.scope.names.lookup x = some .local) (hy : X.env.scope.names.lookup y = some .local) (ha : PP X cl W a A) (hb : PPN X cl W b B)
    (hw : swappedStores [.Tuple [.Name x px, .Name y py] kt pt] (.Tuple [a, b] k2 pt2) X.env = pure (some [x, y]))
    (hs : swapsWithSole [.Tuple [.Name x px, .Name y py] kt pt] (.Tuple [a, b] k2 pt2) pos.line X.env = pure false := by rfl)
    (h1 : starEach [a, b] X.env = (false, eval a X.env) :: starEach [b] X.env := by rfl) (h2 : starEach [b] X.env = (false, eval b X.env) :: starEach [] X.env := by rfl) :
    PPS X cl W F0 H0 (.Assign [.Tuple [.Name x px, .Name y py] kt pt] (.Tuple [a, b] k2 pt2) pos) (sParDN i j A B) := PS.imp (ps_par hc hN hi hj hij hx hy (pa_cons ha (pa_cons hb pa_nil h2) h1) hw hs) fun Dn σ H ⟨F, e, s, h⟩ => by
  obtain ⟨hl, h⟩ := inE_ok h
  refine goSE2 s h fun d F1 H1 v x1 s1 r1 h1 => ?_
  cases q : d.solid with
  | false => rw [q] at h1; exact h1.elim
  | true =>
    rw [q] at h1
    refine goSN2 s1 h1 fun l F2 H2 p vs x2 s2 np r z h2 => ?_
    obtain ⟨a1, b1⟩ := s2.st.set (i := i) ((r1.rd q).same x2.f)
    exact ⟨_, _, rfl, h2 _ _ _ (Same.refl _) (own_set (s2.keep a1 b1) (by rw [List.length_set]; exact hl) np r)⟩
theorem pps_parNN {i j : Nat} {x y : Str} {px py pt : Pos} {kt k2 pt2} (hc : X.calm = true) (hN : X.N.Nodup) (hi : X.N[i]? = some x) (hj : X.N[j]? = some y) (hij : i ≠ j)
    (hx : X.env.scope.names.lookup x = some .local) (hy : X.env.scope.names.lookup y = some .local) (ha : PPN X cl W a L) (hb : PPN X cl W b B)
    (hw : swappedStores [.Tuple [.Name x px, .Name y py] kt pt] (.Tuple [a, b] k2 pt2) X.env = pure (some [x, y]))
    (hs : swapsWithSole [.Tuple [.Name x px, .Name y py] kt pt] (.Tuple [a, b] k2 pt2) pos.line X.env = pure false := by rfl)
    (h1 : starEach [a, b] X.env = (false, eval a X.env) :: starEach [b] X.env := by rfl) (h2 : starEach [b] X.env = (false, eval b X.env) :: starEach [] X.env := by rfl) :
    PPS X cl W F0 H0 (.Assign [.Tuple [.Name x px, .Name y py] kt pt] (.Tuple [a, b] k2 pt2) pos) (sParNN i j L B) := PS.imp (ps_par hc hN hi hj hij hx hy (pa_cons ha (pa_cons hb pa_nil h2) h1) hw hs) fun Dn σ H ⟨F, e, s, h⟩ => by
  obtain ⟨hli, h⟩ := inE_ok h
  obtain ⟨hl, h⟩ := inE_ok h
  refine goSN2 s h fun l F1 H1 p vs x1 s1 np r z h1 => ?_
  have w := Ext.add s1.st.sub np (.lst vs)
  have n := s1.nF np
  refine goSN2 (s1.grow w) h1 fun l2 F2 H2 p2 vs2 x2 s2 np2 r2 z2 h2 => ?_
  have hp := x2.h _ _ (upd_same (H := H1) (a := p) (o := .lst vs))
  have nF2 : F2 p = none := x2.stay n.1 upd_same
  exact ⟨_, _, rfl, h2 _ _ _ (Same.refl _) (own_set (own_put s2 hli hp nF2 n.2 (r.same x2.f) fun j l3 b ho _ q1 q2 => own_ne s1 np j l3 b ho q1 q2) (by rw [List.length_set]; exact hl) np2 r2)⟩
theorem pps_parND {i j : Nat} {x y : Str} {px py pt : Pos} {kt k2 pt2} (hc : X.calm = true) (hN : X.N.Nodup) (hi : X.N[i]? = some x) (hj : X.N[j]? = some y) (hij : i ≠ j)
    (hx : X.env.scope.names.lookup x = some .local) (hy : X.env.scope.names.lookup y = some .local) (ha : PPN X cl W a L) (hb : PP X cl W b A)
    (hw : swappedStores [.Tuple [.Name x px, .Name y py] kt pt] (.Tuple [a, b] k2 pt2) X.env = pure (some [x, y]))
    (hs : swapsWithSole [.Tuple [.Name x px, .Name y py] kt pt] (.Tuple [a, b] k2 pt2) pos.line X.env = pure false := by rfl)
    (h1 : starEach [a, b] X.env = (false, eval a X.env) :: starEach [b] X.env := by rfl) (h2 : starEach [b] X.env = (false, eval b X.env) :: starEach [] X.env := by rfl) :
    PPS X cl W F0 H0 (.Assign [.Tuple [.Name x px, .Name y py] kt pt] (.Tuple [a, b] k2 pt2) pos) (sParND i j L A) := PS.imp (ps_par hc hN hi hj hij hx hy (pa_cons ha (pa_cons hb pa_nil h2) h1) hw hs) fun Dn σ H ⟨F, e, s, h⟩ => by
  obtain ⟨hli, h⟩ := inE_ok h
  refine goSN2 s h fun l F1 H1 p vs x1 s1 np r z h1 => ?_
  have w := Ext.add s1.st.sub np (.lst vs)
  have n := s1.nF np
  refine goSE2 (s1.grow w) h1 fun d F2 H2 v x2 s2 r2 h2 => ?_
  cases q : d.solid with
  | false => rw [q] at h2; exact h2.elim
  | true =>
    rw [q] at h2
    have hp := x2.h _ _ (upd_same (H := H1) (a := p) (o := .lst vs))
    have nF2 : F2 p = none := x2.stay n.1 upd_same
    have s3 := own_put s2 hli hp nF2 n.2 (r.same x2.f) fun j l3 b ho _ q1 q2 => own_ne s1 np j l3 b ho q1 q2
    obtain ⟨a1, b1⟩ := s3.st.set (i := j) (r2.rd q)
    exact ⟨_, _, rfl, h2 _ _ _ (Same.refl _) (s3.keep a1 b1)⟩
end
end M
namespace M
open PySem PySem.Spec PyProof.Rows L2

def sParDDN (i j k : Nat) (A A2 : CE) (B : CA) : CS := fun e => inE k e (rE (A e) e fun d => match d.solid with
  | true => rE (A2 e) e fun d2 => (match d2.solid with
    | true => rA (B e) e fun l => .nx (((e.set i (.dat d)).set j (.dat d2)).set k (.own l))
    | false => .bad)
  | false => .bad)
section
variable {X : Cx} {cl : Nat → Value} {W : WX} {F0 H0 : Hp} {a b c : Expr} {A A2 : CE} {B L : CA} {pos : Pos} {i j k : Nat} {x y z : Str} {px py pz pt : Pos} {kt k2 : Nat} {pt2 : Pos}
theorem ddn_core {Dn : Ends} {F H : Hp} {e : En} {σ : L2.St} {R : List V → Hp → Prop} (s : StS X.K F0 H0 F e σ H) (hl : k < e.length) (h : PostS X.K cl W F0 H0 F Dn (rE (A e) e fun d => match d.solid with
  | true => rE (A2 e) e fun d2 => (match d2.solid with
    | true => rA (B e) e fun l => .nx (((e.set i (.dat d)).set j (.dat d2)).set k (.own l))
    | false => .bad)
  | false => .bad))
    (hR : ∀ (u v : V) (F3 H3 : Hp) (p : Addr) (vs : List V) (e3 : En) (l : List D), StS X.K F0 H0 F3 e3 ((σ.set i (some u)).set j (some v)) H3 → k < e3.length → H3 p = none → RdL X.K F3 l vs → PostS X.K cl W F0 H0 F3 Dn (.nx (e3.set k (.own l))) → R [u, v, .ref p] (upd H3 p (.lst vs))) :
    tCons (tp X.K cl W A) (tCons (tp X.K cl W A2) (tCons (tn X.K cl W B) tNil)) σ H R := by
  refine goSE2 s h fun d F1 H1 v x1 s1 r1 h1 => ?_
  cases q : d.solid with
  | false => rw [q] at h1; exact h1.elim
  | true =>
    rw [q] at h1
    refine goSE2 s1 h1 fun d2 F2 H2 v2 x2 s2 r2 h2 => ?_
    cases q2 : d2.solid with
    | false => rw [q2] at h2; exact h2.elim
    | true =>
      rw [q2] at h2
      refine goSN2 s2 h2 fun l F3 H3 p vs x3 s3 np r z h3 => ?_
      obtain ⟨a1, b1⟩ := s3.st.set (i := i) ((r1.rd q).same (x2.f.trans x3.f))
      obtain ⟨a2, b2⟩ := a1.set (i := j) ((r2.rd q2).same x3.f)
      exact hR v v2 F3 H3 p vs _ l (s3.keep a2 (b1.trans b2)) (by rw [List.length_set, List.length_set]; exact hl) np r h3
theorem pps_par3DDN (hc : X.calm = true) (hN : X.N.Nodup) (hi : X.N[i]? = some x) (hj : X.N[j]? = some y) (hk : X.N[k]? = some z) (hij : i ≠ j) (hik : i ≠ k) (hjk : j ≠ k)
    (hx : X.env.scope.names.lookup x = some .local) (hy : X.env.scope.names.lookup y = some .local) (hz : X.env.scope.names.lookup z = some .local) (ha : PP X cl W a A) (hb : PP X cl W b A2) (hd : PPN X cl W c B)
    (hw : swappedStores [.Tuple [.Name x px, .Name y py, .Name z pz] kt pt] (.Tuple [a, b, c] k2 pt2) X.env = pure (some [x, y, z]))
    (hs : swapsWithSole [.Tuple [.Name x px, .Name y py, .Name z pz] kt pt] (.Tuple [a, b, c] k2 pt2) pos.line X.env = pure false := by rfl)
    (h1 : starEach [a, b, c] X.env = (false, eval a X.env) :: starEach [b, c] X.env := by rfl) (h2 : starEach [b, c] X.env = (false, eval b X.env) :: starEach [c] X.env := by rfl) (h3 : starEach [c] X.env = (false, eval c X.env) :: starEach [] X.env := by rfl) :
    PPS X cl W F0 H0 (.Assign [.Tuple [.Name x px, .Name y py, .Name z pz] kt pt] (.Tuple [a, b, c] k2 pt2) pos) (sParDDN i j k A A2 B) := PS.imp (ps_par3 hc hN hi hj hk hij hik hjk hx hy hz (pa_cons ha (pa_cons hb (pa_cons hd pa_nil h3) h2) h1) hw hs) fun Dn σ H ⟨F, e, s, h⟩ => by
  obtain ⟨hl, h⟩ := inE_ok h
  refine ddn_core s hl h fun u v F3 H3 p vs e3 l s3 hl3 np r h3 => ?_
  exact ⟨_, _, _, rfl, h3 _ _ _ (Same.refl _) (own_set s3 hl3 np r)⟩
theorem pps_asgDDN (hc : X.calm = true) (hN : X.N.Nodup) (hi : X.N[i]? = some x) (hj : X.N[j]? = some y) (hk : X.N[k]? = some z) (hx : Loc X.env.scope x) (hy : Loc X.env.scope y) (hz : Loc X.env.scope z) (ha : PP X cl W a A) (hb : PP X cl W b A2) (hd : PPN X cl W c B)
    (hs : swapsWithSole [.Tuple [.Name x px, .Name y py, .Name z pz] kt pt] (.Tuple [a, b, c] k2 pt2) pos.line X.env = pure false := by rfl) (hw : swappedStores [.Tuple [.Name x px, .Name y py, .Name z pz] kt pt] (.Tuple [a, b, c] k2 pt2) X.env = pure none := by rfl)
    (h0 : (assignEach [.Tuple [.Name x px, .Name y py, .Name z pz] kt pt] X.env).map (·.2) = [assign (.Tuple [.Name x px, .Name y py, .Name z pz] kt pt) X.env] := by rfl)
    (hn : (assignEach [.Name x px, .Name y py, .Name z pz] X.env).length = 3 := by rfl) (hst : (assignEach [.Name x px, .Name y py, .Name z pz] X.env).findIdx? (·.1) = none := by rfl)
    (hf : X.fn x = true ∨ X.env.scope.names.lookup x = some .local := by first | exact .inl rfl | exact .inr rfl | assumption) (hf2 : X.fn y = true ∨ X.env.scope.names.lookup y = some .local := by first | exact .inl rfl | exact .inr rfl | assumption) (hf3 : X.fn z = true ∨ X.env.scope.names.lookup z = some .local := by first | exact .inl rfl | exact .inr rfl | assumption)
    (h1 : starEach [a, b, c] X.env = (false, eval a X.env) :: starEach [b, c] X.env := by rfl) (h2 : starEach [b, c] X.env = (false, eval b X.env) :: starEach [c] X.env := by rfl) (h3 : starEach [c] X.env = (false, eval c X.env) :: starEach [] X.env := by rfl) :
    PPS X cl W F0 H0 (.Assign [.Tuple [.Name x px, .Name y py, .Name z pz] kt pt] (.Tuple [a, b, c] k2 pt2) pos) (sParDDN i j k A A2 B) :=
  PS.imp (ps_asg (pe_tupX (pa_cons ha (pa_cons hb (pa_cons hd pa_nil h3) h2) h1)) (pg_tup hc (pgs_cons (pg_name hN hi hx hf) (pgs_cons (pg_name hN hj hy hf2) (pgs_cons (pg_name hN hk hz hf3) pgs_nil))) hn hst) hs hw h0) fun Dn σ H ⟨F, e, s, h⟩ => by
  obtain ⟨hl, h⟩ := inE_ok h
  refine ddn_core (R := fun vs H1 => vs.length ≤ sizeLine ∧ QT (fun v H2 => gTup X.K 3 (gCons (gName i) (gCons (gName j) (gCons (gName k) gNil))) v σ H2 Dn.nx) H1 vs) s hl h fun u v F3 H3 p vs e3 l s3 hl3 np r h3 => ?_
  refine ⟨by simp [sizeLine_eq], fun t o nt od => ⟨t, _, rfl, .inl (.inr ⟨o, upd_same⟩), rfl, _, _, rfl, _, _, rfl, _, _, rfl, rfl, ?_⟩⟩
  have s4 := own_set s3 hl3 np r
  exact h3 _ _ _ (Same.refl _) (s4.grow (Ext.add s4.st.sub nt (.frz o (.tup [u, v, .ref p]))))
end
end M
namespace M
open PySem PySem.Spec PyProof.Rows L2

/-! ### exceptions out of a comprehension: what is behind its block -/
section
variable {M : Model} {A : Around} {E : Value → Shared → Prop} {s : Shared} {env : Env}
def compPostE (M : Model) (A : Around) (E : Value → Shared → Prop) (use : Option (Value → Sem Unit)) (Q : Value → Shared → Prop) (acc : Value) (ce : Env) (r : Result) (s' : Shared) : Prop :=
  match r with
  | .ok f => compPost M A E use Q acc ce.locals (.ok f) s'
  | .error x => ∃ m, s'.heap.Ns ce.locals m ∧ ∀ h', Heap.SameBut ce.locals s'.heap h' → wpAny M A (passOn "comprehension.variables-let-go" x ce : Sem Value) (fun _ _ => False) E { s' with heap := h' }
theorem comprehension_free {e : Expr} {scope : Scope} {pos : Pos} {newAcc first : Sem Value} {g : Comprehension} {gs : List Comprehension} {cl : List (Str × Addr)} {use : Option (Value → Sem Unit)}
    {Q : Value → Shared → Prop}
    (hcl : clausesOf e = g :: gs) (hs : ∀ x, foldedSetIterable g.iter env x = pure x) (hclos : closureFor scope env = pure cl)
    (hkind : scope.kind = .function) (hnames : ∀ x ∈ scope.names, x.2 = .local → scope.names.lookup x.1 = some .local)
    (h : wpAny M A first (fun x s₁ => wpAny M A (pyIter x) (fun it s₂ => wpAny M A newAcc (fun acc s₃ =>
      wpAny M A (newFunctionEnv scope env.globals cl [] env.qual none .none (some env)) (fun cenv s₄ =>
        codeAny M A (.compStart e 0 it acc { cenv with scope := relabel scope env }) (compPostE M A E use Q acc { cenv with scope := relabel scope env }) s₄) E s₃) E s₂) E s₁) E s) :
    wpAny M A (comprehension e scope env pos newAcc false first use) Q E s := by
  unfold comprehension
  rw [hclos, hcl]
  refine wpAny_bind (wpAny_mono h (fun x s₁ h₁ => wpAny_bind (wpAny_standAt (wpAny_bind (wpAny_of_eq (hs x) (wpAny_bind (wpAny_holding (wpAny_mono h₁ (fun it s₂ h₂ =>
    wpAny_standIf (wpAny_bind (wpAny_mono h₂ (fun acc s₃ h₃ => wpAny_bind (wpAny_pure (wpAny_bind (wpAny_mono h₃ (fun cenv s₄ h₄ => ?_) fun _ _ h' => h')))) fun _ _ h' => h')))
      fun _ _ h' => h'))))))) fun _ _ h' => h')
  dsimp only
  have hv : ∀ x ∈ (scope.names.filter fun x => (x.2 == .local || x.2 == .cell) && x.1 != (".0" : Str)).reverse, x.2 = .local →
      Env.kindOf { cenv with scope := relabel scope env } x.1 = some .local := fun x hx hl => lookup_relabel_local (hnames x (List.mem_filter.mp (List.mem_reverse.mp hx)).1 hl)
  have hv' : ∀ x ∈ (scope.names.filter fun x => (x.2 == .local || x.2 == .cell) && x.1 != (".0" : Str)).reverse.drop 1 ++ (scope.names.filter fun x => (x.2 == .local || x.2 == .cell) && x.1 != (".0" : Str)).reverse.take 1,
      x.2 = .local → Env.kindOf { cenv with scope := relabel scope env } x.1 = some .local := fun x hx hl => by
    rcases List.mem_append.mp hx with h1 | h1
    · exact hv x (List.mem_of_mem_drop h1) hl
    · exact hv x (List.mem_of_mem_take h1) hl
  refine wpAny_holding (wpAny_bind (wpAny_attempt (wpAny_holding (wpAny_run (codeAny_mono h₄ fun r s' hr => ?_)))))
  cases r with
  | ok f =>
    cases use with
    | none =>
      obtain ⟨m, hn, hr⟩ := hr
      exact wpAny_bind (wpAny_holding (wpAny_comp_letGo (cenv := { cenv with scope := relabel scope env }) hkind _ s' m hv hn fun h' m' _ hs' => wpAny_pure (hr h' hs')))
    | some u =>
      refine wpAny_bind (wpAny_rule (wpAny_bind (wpAny_holding (wpAny_mono hr (fun _ s'' hr' => ?_) fun _ _ h' => h'))))
      obtain ⟨m, hn, hr'⟩ := hr'
      exact wpAny_bind (wpAny_comp_letGo (cenv := { cenv with scope := relabel scope env }) hkind _ s'' m hv' hn fun h' m' _ hs' => wpAny_pure (hr' h' hs'))
  | error x =>
    obtain ⟨m, hn, hr⟩ := hr
    exact wpAny_bind (wpAny_holding (wpAny_comp_letGo (cenv := { cenv with scope := relabel scope env }) hkind _ s' m hv hn fun h' m' _ hs' => wpAny_mono (hr h' hs') (fun _ _ f => f.elim) fun _ _ y => y))
end
end M
namespace M
open PySem PySem.Spec PyProof.Rows L2

theorem noteFrame_congr {e : Value} {a b : Env} (h : a.frame = b.frame) : noteFrame e a = noteFrame e b := by
  unfold noteFrame PySem.frameOf
  rw [h]
theorem funFrames_move {h h2 B B2 : Heap} (hB : ∀ b, B.get? b = none → B2.get? b = none) (k : ∀ b o, B.get? b = none → h.get? b = some o → h2.get? b = some o) : ∀ {l : List Env}, h.FunFrames B l → h2.FunFrames B2 l
  | [], _ => trivial
  | _ :: _, ⟨a, ⟨L, o, h1, h2, h3, h4⟩, r⟩ => ⟨a, ⟨L, o, h1, hB L h2, k L o h2 h3, h4⟩, funFrames_move hB k r⟩
section
variable {M : Model} {A : Around} {E : Value → Shared → Prop} {s : Shared} {env : Env} {outer : List Env} {base : Heap} {e L C : Addr} {Z : Obj → Prop}
open HandSPX
/-- noted though it was held by another mark -/
theorem looks_heldZ {Q : Unit → Shared → Prop} (hZ : Steady Z) (hfr : A.frames = some (env :: outer)) (hf : env.frame = some L) (hCL : C ≠ L) (hfl : HeldZ base (env :: outer) e Z C s.heap)
    (hQ : ∀ h', HeldZ base (env :: outer) e Z L h' → s.heap.UpToSlots h' → Q () { s with heap := h' }) : wpAny M A (noteFrame (.ref e) env) Q E s := by
  obtain ⟨hkb, hen, hl, oe, vs, T, oT, ts, he, hz, hd, h1, hnT, hTe, hT, hdT, h3⟩ := hfl
  unfold noteFrame
  simp only [hf]
  refine wpAny_bind (wpAny_field he hd h1 ?_)
  rw [if_pos (show (Value.ref T != Value.none) = true from by simp)]
  refine wpAny_bind (wpAny_field hT hdT h3 ?_)
  rw [if_neg (show ¬ ((rawInt C == rawInt L) = true) from by simp [rawInt]; exact fun c => hCL (by exact_mod_cast c))]
  refine wpAny_bind (wpAny_setField hT hdT (Array.getElem?_eq_some_iff.mp h3).1 ?_)
  have other : ∀ b, b ≠ T → (s.heap.update T (Obj.mapFields (·.setIfInBounds 3 Value.none))).get? b = s.heap.get? b := fun b hb => Heap.get?_update_other _ _ (Ne.symm hb)
  have noRecord : ∀ b o, s.heap.get? b = some o → (∀ vs, o.data ≠ .fields vs) → b ≠ T := fun b o hb hnf q => by
    rw [q, hT] at hb; injection hb with hb; subst hb; exact hnf ts hdT
  refine wpAny_entryZ hZ hfr (hl.of_keeps fun b o hb hnf => ⟨o, (other b (noRecord b o hb hnf)).trans hb, rfl⟩) hf ((other e (Ne.symm hTe)).trans he)
    (fun b o hbo => (other b fun q => by rw [q, hnT] at hbo; cases hbo).trans (hkb b o hbo)) hen hd (Array.getElem?_eq_some_iff.mp h1).1 hz fun h' hN => ?_
  obtain ⟨x1, x2, x3, x4⟩ := hN
  exact hQ h' ⟨x1, hen, x2, x3⟩ fun b o hb hnf => x4 b o ((other b (noRecord b o hb hnf)).trans hb) hnf
theorem sky_note {ce : Env} {Q : Unit → Shared → Prop} (hZ : Steady Z) (hfr : A.frames = some (env :: outer)) (hf : env.frame = some L) (hce : ce.frame = env.frame) (hCL : C ≠ L) (x : Sky base (env :: outer) e Z C s.heap)
    (hQ : ∀ h', HeldZ base (env :: outer) e Z L h' → s.heap.UpToSlots h' → Q () { s with heap := h' }) : wpAny M A (noteFrame (.ref e) ce) Q E s := by
  rw [noteFrame_congr hce]
  rcases x with ⟨hB, hn, hl, oe, vs, he, hz, hd, h1⟩ | fl | hh
  · exact look_newZ hZ hfr hl hf he hB hn hd h1 hz hQ
  · exact looks_onZ hZ hfr hf fl hQ
  · exact looks_heldZ hZ hfr hf hCL hh hQ
end
section
variable {X : Cx} {W : WX} {pins : List (Addr × Obj)} {σ : L2.St} {H : Hp} {s : Shared}
/-- the context of a block that may raise -/
abbrev blkE (X : Cx) (s : Shared) (H : Hp) (scope : Scope) (cenv : Env) (fp : List Addr) (xe : Value → Shared → Prop) : Cx := { X.blk s H scope cenv fp with xe := xe }
theorem takes_blk {scope : Scope} {ce : Env} {fp : List Addr} {use : Option (Value → Sem Unit)} {Qf : Value → Shared → Prop} {acc : Value} (hs : X.stack = X.env :: X.outer) (hf : X.env.frame = some X.env.locals) (tk : Takes X W) (I : Inv X pins σ H s) (hce : ce.frame = X.env.frame) (hC : ce.locals = s.heap.objs.size)
    (f3 : ∀ b ∈ fp, FpOk X pins H b ∧ b < s.heap.objs.size) :
    Takes (blkE X s H scope ce fp (fun e s' => notedBy (model X.prog X.w) X.A ce (fun e s' => compPostE (model X.prog X.w) X.A X.xe use Qf acc ce (.error e) s') e s')) (fun cls d _ H' => W cls d σ H') := by
  rintro u s' ⟨a, B, sI, pins', σ', H', cls, d, rfl, I', nb, up, sky, na, os, ag, w⟩
  have hfr : X.A.frames = some (X.env :: X.outer) := by rw [I.ok.frames, hs]
  have hLs : X.env.locals < s.heap.objs.size := I.lt
  have hCL : ce.locals ≠ X.env.locals := by rw [hC]; exact Nat.ne_of_gt hLs
  have sky : Sky B (X.env :: X.outer) a (Zc cls d) ce.locals s'.heap := by rw [← hs]; exact sky
  show wpAny (model X.prog X.w) X.A (noteFrame (.ref a) ce) _ _ s'
  refine sky_note Zc.steady hfr hf hce hCL sky fun h1 hh up1 => ?_
  obtain ⟨m, ⟨oC, es, ep, hoC, rC⟩, _⟩ := I'.loc
  have hoC : sI.heap.get? ce.locals = some oC := hoC
  have HC : H' ce.locals = none := I'.free
  have dC : oC.data = .dict es ep := rC.1
  have nfC : ∀ vs, oC.data ≠ .fields vs := fun vs q => by rw [dC] at q; cases q
  obtain ⟨sl1, e1⟩ := up _ _ hoC nfC
  obtain ⟨sl2, e2⟩ := up1 _ _ e1 nfC
  refine ⟨m, ⟨_, es, ep, e2, rC⟩, fun h2 sb => ?_⟩
  have nC : ce.locals ∉ frs X.stack := fun hm => by
    obtain ⟨_, o', e', _⟩ := I.stack.mem hm
    have := Heap.lt_size e'
    rw [hC] at this
    exact absurd this (Nat.lt_irrefl _)
  obtain ⟨k1, k2, k3, oe, vs, T, oT, ts, he, hz, hd, h1', hnT, hTe, hT, hdT, h3⟩ := hh
  obtain ⟨B2, b1, b2⟩ := restrict B fun b => decide (b ≠ ce.locals)
  have BC : B.get? ce.locals = some oC := nb _ _ hoC nC
  have neB : ∀ {b}, B.get? b = none → b ≠ ce.locals := fun q z => by rw [z, BC] at q; cases q
  have B2s : ∀ b o, B2.get? b = some o → b ≠ ce.locals ∧ B.get? b = some o := fun b o q => by
    by_cases c : b = ce.locals
    · rw [b2 b (decide_eq_false fun z => z c)] at q; cases q
    · exact ⟨c, by rw [← b1 b (decide_eq_true c)]; exact q⟩
  have nB2 : ∀ b, B.get? b = none → B2.get? b = none := fun b q => by
    cases z : B2.get? b with
    | none => rfl
    | some o => rw [(B2s b o z).2] at q; cases q
  have hh2 : HandSPX.HeldZ B2 (X.env :: X.outer) a (Zc cls d) X.env.locals h2 :=
    ⟨fun b o q => (sb.2 b (B2s b o q).1).trans (k1 b o (B2s b o q).2), nB2 a k2, funFrames_move nB2 (fun b o n e => (sb.2 b (neB n)).trans e) k3, oe, vs, T, oT, ts, (sb.2 a (neB k2)).trans he, hz, hd, h1', nB2 T hnT, hTe, (sb.2 T (neB hnT)).trans hT, hdT, h3⟩
  unfold PySem.passOn
  refine wpAny_bind (wpAny_field ((sb.2 a (neB k2)).trans he) hd h1' ?_)
  rw [if_neg (show ¬ ((Value.ref T == Value.none) = true) from by simp)]
  rw [hce, hf]
  refine wpAny_bind (HandSPX.setFlight_onZ (s := { s' with heap := h2 }) hh2 fun h4 hh4 up4 => wpAny_throw (tk _ _ ?_))
  obtain ⟨G, g1, g2⟩ := restrict sI.heap fun b => decide (b ≠ ce.locals)
  have Gs : ∀ b o, G.get? b = some o → b ≠ ce.locals ∧ sI.heap.get? b = some o := fun b o q => by
    by_cases c : b = ce.locals
    · rw [g2 b (decide_eq_false fun z => z c)] at q; cases q
    · exact ⟨c, by rw [← g1 b (decide_eq_true c)]; exact q⟩
  have old : ∀ {b : Addr} {o : Obj}, s.heap.get? b = some o → b ≠ ce.locals := fun {b o} e z => by
    have := Heap.lt_size e
    rw [z, hC] at this
    exact absurd this (Nat.lt_irrefl _)
  have gk : ∀ b o, b ≠ ce.locals → sI.heap.get? b = some o → G.get? b = some o := fun b o hb e => by rw [g1 b (decide_eq_true hb)]; exact e
  have U := I'.base
  have U2 : Un (frs X.stack) fp H H' s.heap G := ⟨fun b o e n h5 h6 => gk b o (old e) (U.keep b o e n h5 h6), fun b o e n h5 h6 => by
      obtain ⟨sl, z⟩ := U.slot b o e n h5 h6
      exact ⟨sl, gk b _ (old e) z⟩, U.free, fun b o e h5 => by
      obtain ⟨o', z⟩ := U.there b o e h5
      exact ⟨o', gk b _ (old e) z⟩, U.tups, U.frzs, U.tbls⟩
  have tr : ∀ {b : Addr} {o : HO}, H' b = some o → b ≠ ce.locals := fun {b o} e z => by rw [z, HC] at e; cases e
  have hok : HOk X.prog X.w H' G := fun b o e => (I'.hok b o e).stay (fun c v q z => gk c v (by rcases q with rfl | q; exact tr e; exact tr q) z) (fun _ q => q) fun _ _ q => q
  have J : Inv X pins σ H' { sI with heap := G } := I.call' (s' := { sI with heap := G }) (ch := fp) I'.os U2 hok I'.bare fun b hb => ⟨(f3 b hb).1.2.2.2.1, (f3 b hb).1.2.1, (f3 b hb).1.2.2.2.2.1, (f3 b hb).1.2.2.2.2.2⟩
  refine ⟨a, B2, { sI with heap := G }, pins, σ, H', cls, d, rfl, J, fun b o q hb => ?_, fun b o q hnf => ?_, .inr (.inr (by rw [hs]; exact hh4)), na, os, ag, w⟩
  · obtain ⟨q1, q2⟩ := Gs b o q
    rw [b1 b (decide_eq_true q1)]
    exact nb b o q2 hb
  · obtain ⟨q1, q2⟩ := Gs b o q
    obtain ⟨s1, z1⟩ := up b o q2 hnf
    obtain ⟨s2, z2⟩ := up1 b _ z1 hnf
    obtain ⟨s3, z3⟩ := up4 b _ ((sb.2 b q1).trans z2) hnf
    exact ⟨s3, z3⟩
end
end M
namespace M
open PySem PySem.Spec PyProof.Rows L2

section
variable {X : Cx}
theorem lc_coreE {WW : WX} {pins : List (Addr × Obj)} {s : Shared} {σ : L2.St} {H : Hp} {Q : VK} {elt tg iter : Expr} {ifs : List Expr} {scope : Scope} {own : List (Str × Nat)} {pos pos' : Pos} {wi : TI} {g : TG} {tt : TT} {te : TE} {use : Option (Value → Sem Unit)} {Qf : Value → Shared → Prop}
    (hs0 : X.stack = X.env :: X.outer) (hf0 : X.env.frame = some X.env.locals) (tk : Takes X WW) (hc : X.calm = true) (hN : X.N.Nodup) (I : Inv X pins σ H s) (hi : PI X tg iter wi) (ok : BlkOk X.N X.env.scope scope own)
    (hg : ∀ (s : Shared) (H : Hp) (C : Addr) (cl : List (Str × Addr)) (fp : List Addr) (xe : Value → Shared → Prop), PG (blkE X s H scope (compEnvC scope cl C X.env) fp xe) tg g)
    (ht : ∀ (s : Shared) (H : Hp) (C : Addr) (cl : List (Str × Addr)) (fp : List Addr) (xe : Value → Shared → Prop), Takes (blkE X s H scope (compEnvC scope cl C X.env) fp xe) (fun cls d _ H' => WW cls d σ H') → PTs (blkE X s H scope (compEnvC scope cl C X.env) fp xe) ifs tt)
    (he : ∀ (s : Shared) (H : Hp) (C : Addr) (cl : List (Str × Addr)) (fp : List Addr) (xe : Value → Shared → Prop), Takes (blkE X s H scope (compEnvC scope cl C X.env) fp xe) (fun cls d _ H' => WW cls d σ H') → PE (blkE X s H scope (compEnvC scope cl C X.env) fp xe) elt te) (hs : ∀ x, foldedSetIterable iter X.env x = pure x)
    (h : tLc wi g tt te (own.map (·.2)) σ H Q)
    (hRR : ∀ D C s' m H', Inv X pins σ H' s' → Q (.ref D) H' → s'.heap.Ns C m → FpOk X pins H' C → compPost (model X.prog X.w) X.A X.xe use Qf (.ref D) C (.ok .next) s') :
    wpAny (model X.prog X.w) X.A (comprehension (.ListComp elt [⟨tg, iter, ifs, 0⟩] scope pos) scope X.env pos' (newList []) false (eval iter X.env) use) Qf X.xe s := by
  have hfree : ∀ y ∈ scope.names, y.2 = .free → ∃ c, X.env.cells.lookup y.1 = some c := fun y hy e => by
    rcases ok.free y hy e with k | k
    · exact I.ok.has _ (.inl k)
    · exact I.ok.has _ (.inr k)
  refine comprehension_free (use := use) rfl hs (closure_ok hfree) ok.kind (fun y hy e => by rw [ok.uniq y hy, e])
    (thn (hi.run pins s σ H _ I h) fun xv s1 hx => thn hx fun itv s2 h2 => ?_)
  obtain ⟨it, fp, tn, J, H2, e, I2, T, st2, f2, q⟩ := h2
  subst e
  refine wpAny_newObj_type (newEnv_comp ?_) (by show 0 ≤ sizeLine; decide)
  generalize hD : s2.heap.objs.size = D
  have hDn : H2 D = none := I2.hok.fresh (Nat.le_of_eq hD)
  obtain ⟨W, ⟨m0, w0⟩, turn⟩ := q D hDn
  -- the new list
  generalize hs3 : ({ s2 with heap := s2.heap.push { cls := .type "list", data := .seq ([] : List Value).toArray } } : Shared) = s3
  have I3 : Inv X pins σ (upd H2 D (.lst [])) s3 := by
    rw [← hs3]
    refine I2.laid (t' := s2.toks) (fun b o e => Heap.get?_push_of_some _ e) (Nat.le_of_eq hD) ⟨Nat.zero_le _, [], 0, .nil, ?_⟩
    rw [← hD]
    exact Heap.get?_push_size _ rfl
  have h3 : s3.heap = s2.heap.push { cls := .type "list", data := .seq ([] : List Value).toArray } := by rw [← hs3]
  have sz : ∀ b ∈ fp, b < s2.heap.objs.size := fun b hb => by
    obtain ⟨o, e, _⟩ := T.obj _ _ st2 b hb
    exact Heap.lt_size e
  have f3 : ∀ b ∈ fp, FpOk X pins (upd H2 D (.lst [])) b ∧ b < s3.heap.objs.size := fun b hb => by
    have hlt := sz b hb
    refine ⟨⟨?_, (f2 b hb).2⟩, by rw [h3, Heap.size_push]; exact Nat.lt_succ_of_lt hlt⟩
    rw [upd_ne (by rw [← hD]; exact Nat.ne_of_lt hlt)]
    exact (f2 b hb).1
  have st3 : tn 0 s3.heap := T.keep _ _ _ st2 fun b _ o e => by rw [h3]; exact Heap.get?_push_of_some _ e
  have tkB := takes_blk (use := use) (Qf := Qf) (acc := .ref D) (scope := scope) (ce := (compEnvC scope (cellsFrom (s3.heap.objs.size + 1) scope.names (cloFrom X.env.cells scope.names [])) s3.heap.objs.size X.env)) hs0 hf0 tk I3 rfl rfl f3
  have I4 := (block_start I3 ok hN f3).wish (notedBy (model X.prog X.w) X.A (compEnvC scope (cellsFrom (s3.heap.objs.size + 1) scope.names (cloFrom X.env.cells scope.names [])) s3.heap.objs.size X.env) (fun e s' => compPostE (model X.prog X.w) X.A X.xe use Qf (.ref D) (compEnvC scope (cellsFrom (s3.heap.objs.size + 1) scope.names (cloFrom X.env.cells scope.names [])) s3.heap.objs.size X.env) (.error e) s'))
  have pg := hg s3 (upd H2 D (.lst [])) s3.heap.objs.size (cellsFrom (s3.heap.objs.size + 1) scope.names (cloFrom X.env.cells scope.names [])) fp (notedBy (model X.prog X.w) X.A (compEnvC scope (cellsFrom (s3.heap.objs.size + 1) scope.names (cloFrom X.env.cells scope.names [])) s3.heap.objs.size X.env) (fun e s' => compPostE (model X.prog X.w) X.A X.xe use Qf (.ref D) (compEnvC scope (cellsFrom (s3.heap.objs.size + 1) scope.names (cloFrom X.env.cells scope.names [])) s3.heap.objs.size X.env) (.error e) s'))
  have pt := ht s3 (upd H2 D (.lst [])) s3.heap.objs.size (cellsFrom (s3.heap.objs.size + 1) scope.names (cloFrom X.env.cells scope.names [])) fp (notedBy (model X.prog X.w) X.A (compEnvC scope (cellsFrom (s3.heap.objs.size + 1) scope.names (cloFrom X.env.cells scope.names [])) s3.heap.objs.size X.env) (fun e s' => compPostE (model X.prog X.w) X.A X.xe use Qf (.ref D) (compEnvC scope (cellsFrom (s3.heap.objs.size + 1) scope.names (cloFrom X.env.cells scope.names [])) s3.heap.objs.size X.env) (.error e) s')) tkB
  have pe := he s3 (upd H2 D (.lst [])) s3.heap.objs.size (cellsFrom (s3.heap.objs.size + 1) scope.names (cloFrom X.env.cells scope.names [])) fp (notedBy (model X.prog X.w) X.A (compEnvC scope (cellsFrom (s3.heap.objs.size + 1) scope.names (cloFrom X.env.cells scope.names [])) s3.heap.objs.size X.env) (fun e s' => compPostE (model X.prog X.w) X.A X.xe use Qf (.ref D) (compEnvC scope (cellsFrom (s3.heap.objs.size + 1) scope.names (cloFrom X.env.cells scope.names [])) s3.heap.objs.size X.env) (.error e) s')) tkB
  show codeAny _ _ (.compStart (.ListComp elt [⟨tg, iter, ifs, 0⟩] scope pos) 0 (.ref it) (.ref D) (compEnvC scope (cellsFrom (s3.heap.objs.size + 1) scope.names (cloFrom X.env.cells scope.names [])) s3.heap.objs.size X.env)) (compPostE (model X.prog X.w) X.A X.xe use Qf (.ref D) (compEnvC scope (cellsFrom (s3.heap.objs.size + 1) scope.names (cloFrom X.env.cells scope.names [])) s3.heap.objs.size X.env)) { s3 with heap := pushCells (s3.heap.push { cls := .type "dict", data := .dict #[] }) scope.names }
  have nfp : ∀ b ∈ fp, (upd H2 D (.lst [])) b = none := fun b hb => (f3 b hb).1.1
  generalize hce : compEnvC scope (cellsFrom (s3.heap.objs.size + 1) scope.names (cloFrom X.env.cells scope.names [])) s3.heap.objs.size X.env = ce at I4 pg pt pe ⊢
  have cL : ce.locals = s3.heap.objs.size := by subst hce; rfl
  generalize hH3 : upd H2 D (.lst []) = H3 at I3 I4 pg pt pe w0 nfp f3
  generalize hs4 : ({ s3 with heap := pushCells (s3.heap.push { cls := .type "dict", data := .dict #[] }) scope.names } : Shared) = s4 at I4 ⊢
  have st4 : tn 0 s4.heap := T.keep _ _ _ st3 fun b _ o e => by rw [← hs4]; exact pushCells_keeps _ _ _ _ (Heap.get?_push_of_some _ e)
  have stat : ∀ {σ' : St} {H' : Hp} {s' : Shared}, Inv (blkE X s3 H3 scope ce fp (notedBy (model X.prog X.w) X.A ce (fun e s' => compPostE (model X.prog X.w) X.A X.xe use Qf (.ref D) ce (.error e) s'))) [] σ' H' s' → (∀ b ∈ fp, H' b = none) → ∀ b ∈ fp, FpOk (blkE X s3 H3 scope ce fp (notedBy (model X.prog X.w) X.A ce (fun e s' => compPostE (model X.prog X.w) X.A X.xe use Qf (.ref D) ce (.error e) s'))) [] H' b := fun {σ' H' s'} I' hn b hb =>
    ⟨hn b hb, (I'.ok.exf b hb).1, I'.ok.exfs b hb, .inl hb, fun x c e => (I'.ok.exf b hb).2 x c e, fun p hp => absurd (show p ∈ ([] : List (Addr × Obj)) ++ [] from hp) (by simp)⟩
  have loop : codeAny (model X.prog X.w) X.A (.compLoop (.ListComp elt [⟨tg, iter, ifs, 0⟩] scope pos) 0 (.ref it) (.ref D) ce) (compPostE (model X.prog X.w) X.A X.xe use Qf (.ref D) ce) s4 := by
    refine compLoop_any (fun n s' => ∃ i H', Inv (blkE X s3 H3 scope ce fp (notedBy (model X.prog X.w) X.A ce (fun e s' => compPostE (model X.prog X.w) X.A X.xe use Qf (.ref D) ce (.error e) s'))) [] (wipe σ (own.map (·.2))) H' s' ∧ tn i s'.heap ∧ (∀ b ∈ fp, H' b = none) ∧ W i n H') ?_ m0 ⟨0, H3, I4, st4, nfp, w0⟩
    rintro n s5 ⟨i, H5, I5, st5, n5, w5⟩
    rcases turn i n H5 w5 with ⟨stop, qq⟩ | ⟨go, Nx, hNx, step⟩
    · have td := T.done (blkE X s3 H3 scope ce fp (notedBy (model X.prog X.w) X.A ce (fun e s' => compPostE (model X.prog X.w) X.A X.xe use Qf (.ref D) ce (.error e) s'))) rfl rfl rfl hc i [] s5 _ H5 (fun _ _ => False) I5 (stat I5 n5) st5 stop
      refine thnF td fun r s6 ⟨hr, I6⟩ => ?_
      subst hr
      -- back in the def's context
      have I7 : Inv X pins σ H5 s6 := I3.call' (ch := fp) I6.os I6.base I6.hok I6.bare fun b hb => ⟨(f3 b hb).1.2.2.2.1, (f3 b hb).1.2.1, (f3 b hb).1.2.2.2.2.1, (f3 b hb).1.2.2.2.2.2⟩
      have nC : H5 s3.heap.objs.size = none := by
        have z : H5 ce.locals = none := I6.free
        rw [cL] at z
        exact z
      obtain ⟨m, hn, _⟩ := I6.loc
      have hn : s6.heap.Ns ce.locals m := hn
      rw [cL] at hn
      show compPost _ _ _ use Qf (.ref D) ce.locals (.ok .next) s6
      rw [cL]
      exact hRR D s3.heap.objs.size s6 m H5 I7 qq hn (I3.fpOk (Nat.le_refl _) nC)
    · have ti := T.item (blkE X s3 H3 scope ce fp (notedBy (model X.prog X.w) X.A ce (fun e s' => compPostE (model X.prog X.w) X.A X.xe use Qf (.ref D) ce (.error e) s'))) rfl rfl rfl hc i [] s5 _ H5 (fun _ _ => False) I5 (stat I5 n5) st5 go
      refine thnF ti fun r s6 ⟨u, hr, h6⟩ => ?_
      subst hr
      refine thnF h6 fun _ s7 ⟨x, H7, I7, r7, y7, st7, n7⟩ => ?_
      have I7' := I7.pinned (stat I7 n7) (T.obj _ _ st7)
      refine thn (pg.run _ s7 _ H7 x u _ I7' r7 (step x H7 y7)) fun _ s8 ⟨σ8, H8, I8, hw8, q8⟩ => ?_
      refine thn (pt.run _ s8 σ8 H8 _ I8 q8) fun b s9 ⟨H9, I9, q9⟩ => ?_
      -- the turn's end
      have fin : ∀ {s' : Shared} {H' : Hp}, Inv (blkE X s3 H3 scope ce fp (notedBy (model X.prog X.w) X.A ce (fun e s' => compPostE (model X.prog X.w) X.A X.xe use Qf (.ref D) ce (.error e) s'))) ([] ++ pinsAt fp s7.heap) σ8 H' s' → Nx H' → ∃ m, m < n ∧ ∃ i H', Inv (blkE X s3 H3 scope ce fp (notedBy (model X.prog X.w) X.A ce (fun e s' => compPostE (model X.prog X.w) X.A X.xe use Qf (.ref D) ce (.error e) s'))) [] (wipe σ (own.map (·.2))) H' s' ∧ tn i s'.heap ∧ (∀ b ∈ fp, H' b = none) ∧ W i m H' := fun {s' H'} I' nx => by
        obtain ⟨m', hm, w'⟩ := hNx H' nx
        have pin' : ∀ b ∈ fp, ∀ o, s7.heap.get? b = some o → s'.heap.get? b = some o ∧ H' b = none := fun b hb o e =>
          let z := I'.pin (b, o) (List.mem_append_right _ (List.mem_append_right _ (mem_pinsAt hb e)))
          ⟨z.1, z.2.1⟩
        have hl : (wipe σ (own.map (·.2))).length = σ8.length := by rw [← hw8, wipe_length]
        refine ⟨m', hm, i + 1, H', (I'.unpinned (pins := [])).weak hl (fun j v e => ?_), T.keep _ _ _ st7 fun b hb o e => (pin' b hb o e).1, fun b hb => ?_, w'⟩
        · rw [← hw8] at e
          exact (wipe_some e).1
        · obtain ⟨o, e, _⟩ := T.obj _ _ st7 b hb
          exact (pin' b hb o e).2
      cases b with
      | false =>
        simp only [Bool.false_eq_true, if_false] at q9 ⊢
        exact fin I9 q9
      | true =>
        simp only [if_true] at q9 ⊢
        refine thn (pe.run _ s9 σ8 H9 _ I9 q9) fun z s10 ⟨yv, H10, I10, r10, acc, hD10, hz10, nx⟩ => ?_
        exact app_ok (X := blkE X s3 H3 scope ce fp (notedBy (model X.prog X.w) X.A ce (fun e s' => compPostE (model X.prog X.w) X.A X.xe use Qf (.ref D) ce (.error e) s'))) I10 hD10 hz10 r10 fun s11 I11 => fin I11 nx
  exact codeAny_compStart_list loop (T.self X.A 0 _ _ _ st4 loop)
end
end M
namespace M
open PySem PySem.Spec PyProof.Rows L2

/-! ### list comprehensions that may raise -/
def lcE (G : CG) (T : CT) (E : CE) (e : En) : List D → Res (List D)
  | [] => .ok []
  | d :: l => match G d e with
    | none => .bad
    | some e1 => match T e1 with
      | .ok b => (match b with
        | true => (match E e1 with
          | .ok x => (match x.solid with
            | true => (match lcE G T E e l with
              | .ok r => .ok (x :: r)
              | .exc c => .exc c
              | .bad => .bad)
            | false => .bad)
          | .exc c => .exc c
          | .bad => .bad)
        | false => lcE G T E e l)
      | .exc c => .exc c
      | .bad => .bad
def preL (a : List D) : Res (List D) → Res (List D)
  | .ok r => .ok (a ++ r)
  | .exc c => .exc c
  | .bad => .bad
def nLcE (A : CA) (vs : List Nat) (G : CG) (T : CT) (E : CE) : CA := fun e => (A e).bind fun l => match Nat.ble l.length 1000000 with
  | true => lcE G T E (wipeE e vs) l
  | false => .bad
structure LcJ (K : PySem.W.Frag) (G : CG) (T : CT) (E : CE) (e : En) (l : List D) (tot : Res (List D)) (F1 H1 : Hp) (D : Addr) (i m : Nat) (H : Hp) : Prop where
  le : m + i = l.length
  ex : ∃ F accd acc, Same F1 F ∧ Same F H ∧ Same H1 H ∧ (∀ a o, F a = some o → F1 a = some o ∨ H1 a = none) ∧ F D = none ∧ H D = some (.lst acc) ∧ RdL K F accd acc ∧ tot = preL accd (lcE G T E e (l.drop i)) ∧ acc.length ≤ i
section
variable {X : Cx} {cl : Nat → Value} {W : WX} {elt tgt iter : Expr} {ifs : List Expr} {scope : Scope} {own : List (Str × Nat)} {pos : Pos} {A : CA} {G : CG} {T : CT} {E : CE}
theorem tLc_ofE (σ : L2.St) (H : Hp) (Q : VK) : tn X.K cl W (nLcE A (own.map (·.2)) G T E) σ H Q →
    tLc (fun σ H R => ∃ F e, Stt X.K F e σ H ∧ PostI X.K cl W tgt F H σ R (A e)) (fun v σ H Q => ∃ F en d e', Stt X.K F en σ H ∧ RdG X.K F tgt d v ∧ G d en = some e' ∧ ∀ σ', Stt X.K F e' σ' H → OwnKeep en σ e' σ' → L2.wipe σ' (own.map (·.2)) = L2.wipe σ (own.map (·.2)) → Q σ' H)
      (tt X.K cl (fun c d _ H' => W c d σ H') T) (tp X.K cl (fun c d _ H' => W c d σ H') E) (own.map (·.2)) σ H Q := fun ⟨F, e, st, h⟩ => by
  refine ⟨F, e, st, ?_⟩
  unfold nLcE at h
  cases qA : A e with
  | exc c => rw [qA] at h; exact h
  | bad => rw [qA] at h; exact h
  | ok l =>
    rw [qA] at h
    simp only [Res.bind] at h
    cases qz : Nat.ble l.length 1000000 with
    | false => rw [qz] at h; exact h.elim
    | true =>
      rw [qz] at h
      simp only at h
      generalize qt : lcE G T E (wipeE e (own.map (·.2))) l = tot at h
      intro J F1 H1 x1 wk D nD
      have st1 := st.ext x1
      have hline := line_ok qz
      refine ⟨fun i m H => LcJ X.K G T E (wipeE e (own.map (·.2))) l tot F1 H1 D i m H, ⟨l.length, ?_⟩, fun i m H2 w => ?_⟩
      · refine ⟨by omega, F1, [], [], Same.refl _, ?_, ?_, fun a o q => .inl q, ?_, upd_same, .nil, ?_, Nat.le_refl _⟩
        · exact (Ext.add x1.sub nD (.lst [])).sub
        · exact (Ext.add x1.sub nD (.lst [])).h
        · exact x1.sub.free nD
        · rw [List.drop_zero, qt]
          cases tot <;> rfl
      · obtain ⟨le, F2, accd, acc, s12, s2, hh, nw, fD, hD, rd, q, hlen⟩ := w
        obtain ⟨w1, w2, w3⟩ := wk F2 H2 s12 s2
        by_cases hi : i < l.length
        · refine .inr ⟨w1 i hi, fun H' => LcJ X.K G T E (wipeE e (own.map (·.2))) l tot F1 H1 D (i + 1) (m - 1) H', fun H' w => ⟨m - 1, by omega, w⟩, fun x H3 y => ?_⟩
          obtain ⟨d, F3, ed, x3, rx⟩ := w3 i x H3 hi y
          have el : l.drop i = d :: l.drop (i + 1) := by
            rw [List.drop_eq_getElem_cons hi]
            have : l[i] = d := by rw [List.getElem?_eq_getElem hi] at ed; exact Option.some.inj ed
            rw [this]
          rw [el] at q
          have x13 : Ext F1 H1 F3 H3 := by
            refine ⟨s12.trans x3.f, hh.trans x3.h, x3.sub, fun a o z => ?_⟩
            rcases x3.new a o z with z | z
            · exact nw a o z
            · exact .inr (hh.free z)
          have nD3 : F3 D = none := by
            cases z : F3 D with
            | none => rfl
            | some o =>
              rcases x3.new D o z with z | z
              · rw [fD] at z; cases z
              · rw [hD] at z; cases z
          have hD3 := x3.h _ _ hD
          have st3 := st1.ext x13
          obtain ⟨st4, _⟩ := st3.wipe (own.map (·.2))
          unfold lcE at q
          cases qG : G d (wipeE e (own.map (·.2))) with
          | none => rw [qG] at q; subst q; exact h.elim
          | some e1 =>
            rw [qG] at q
            simp only at q
            refine ⟨F3, _, d, e1, st4, rx, qG, fun σ' st5 ok5 hw => ⟨by rw [hw, wipe_wipe], F3, e1, st5, ?_⟩⟩
            cases qT : T e1 with
            | bad => rw [qT] at q; subst q; exact h.elim
            | exc c => rw [qT] at q; subst q; exact fun F' H' x => h F' H' ((x1.trans x13).trans x)
            | ok b =>
              rw [qT] at q
              simp only at q
              intro F4 H4 x4
              have x14 := x13.trans x4
              have nD4 : F4 D = none := x4.stay nD3 hD3
              have hD4 := x4.h _ _ hD3
              cases b with
              | false => exact iteF ⟨by omega, F4, accd, acc, x14.f, x14.sub, x14.h, x14.new, nD4, hD4, rd.same (x3.f.trans x4.f), q, by omega⟩
              | true =>
                simp only at q
                refine iteT ⟨F4, e1, st5.ext x4, ?_⟩
                cases qE : E e1 with
                | bad => rw [qE] at q; subst q; exact h.elim
                | exc c => rw [qE] at q; subst q; exact fun F' H' x => h F' H' ((x1.trans x14).trans x)
                | ok xv =>
                  rw [qE] at q
                  simp only at q
                  intro F5 H5 v x5 rv
                  have x15 := x14.trans x5
                  have nD5 : F5 D = none := x5.stay nD4 hD4
                  have hD5 := x5.h _ _ hD4
                  cases qS : xv.solid with
                  | false => rw [qS] at q; subst q; exact h.elim
                  | true =>
                    rw [qS] at q
                    simp only at q
                    refine ⟨acc, hD5, by omega, ⟨by omega, F5, accd ++ [xv], acc ++ [v], x15.f, fun a o z => ?_, fun a o z => ?_, x15.new, nD5, upd_same, (rd.same ((x3.f.trans x4.f).trans x5.f)).append (.cons (rv.rd qS) .nil), ?_, by simp; omega⟩⟩
                    · have hne : a ≠ D := fun c => by rw [c, nD5] at z; cases z
                      rw [upd_ne hne]; exact x15.sub _ _ z
                    · have hne : a ≠ D := fun c => by rw [c, nD] at z; cases z
                      rw [upd_ne hne]; exact x15.h _ _ z
                    · rw [q]
                      cases lcE G T E (wipeE e (own.map (·.2))) (l.drop (i + 1)) with
                      | ok r => simp [preL]
                      | exc c => rfl
                      | bad => rfl
        · refine .inl ⟨w2 i (by omega), ?_⟩
          have el : l.drop i = [] := List.drop_eq_nil_of_le (by omega)
          rw [el] at q
          have q : tot = .ok (accd ++ []) := q
          rw [List.append_nil] at q
          subst q
          have key : H2 = upd (fun b => if b = D then none else H2 b) D (.lst acc) := by
            funext b
            by_cases hb : b = D
            · subst hb; rw [upd_same, hD]
            · rw [upd_ne hb]; simp [hb]
          rw [key]
          refine h F2 _ D acc ⟨x1.f.trans s12, fun a o z => ?_, fun a o z => ?_, fun a o z => ?_⟩ (by simp) rd (by omega)
          · have hne : a ≠ D := fun c => by rw [c] at z; rw [x1.h _ _ z] at nD; cases nD
            simp only [hne, if_false]; exact hh _ _ (x1.h _ _ z)
          · have hne : a ≠ D := fun c => by rw [c, fD] at z; cases z
            simp only [hne, if_false]; exact s2 _ _ z
          · rcases nw a o z with z | z
            · exact x1.new a o z
            · exact .inr (x1.h.free z)
end
end M
namespace M
open PySem PySem.Spec PyProof.Rows L2

section
variable {X : Cx} {cl : Nat → Value} {W : WX} {elt tgt iter : Expr} {ifs : List Expr} {scope : Scope} {own : List (Str × Nat)} {pos : Pos} {A : CA} {G : CG} {T : CT} {E : CE}
theorem ppn_lcE (hs0 : X.stack = X.env :: X.outer) (hf0 : X.env.frame = some X.env.locals) (tk : Takes X W) (hc : X.calm = true) (hN : X.N.Nodup) (hi : PPI X cl W tgt iter A) (ok : BlkOk X.N X.env.scope scope own)
    (hg : ∀ (s : Shared) (H : Hp) (C : Addr) (cl' : List (Str × Addr)) (fp : List Addr) (xe : Value → Shared → Prop), PPGw (blkE X s H scope (compEnvC scope cl' C X.env) fp xe) (own.map (·.2)) tgt G)
    (ht : ∀ (s : Shared) (H : Hp) (C : Addr) (cl' : List (Str × Addr)) (fp : List Addr) (xe : Value → Shared → Prop) (Wb : WX), Takes (blkE X s H scope (compEnvC scope cl' C X.env) fp xe) Wb → PPTs (blkE X s H scope (compEnvC scope cl' C X.env) fp xe) cl Wb ifs T)
    (he : ∀ (s : Shared) (H : Hp) (C : Addr) (cl' : List (Str × Addr)) (fp : List Addr) (xe : Value → Shared → Prop) (Wb : WX), Takes (blkE X s H scope (compEnvC scope cl' C X.env) fp xe) Wb → PP (blkE X s H scope (compEnvC scope cl' C X.env) fp xe) cl Wb elt E) (hs : ∀ x, foldedSetIterable iter X.env x = pure x := by intro _; rfl) :
    PPN X cl W (.ListComp elt [⟨tgt, iter, ifs, 0⟩] scope pos) (nLcE A (own.map (·.2)) G T E) := by
  refine ⟨fun pins s σ H Q I h => ?_⟩
  rw [eval_ListComp]
  refine lc_coreE (g := fun v σ H Q => ∃ F en d e', Stt X.K F en σ H ∧ RdG X.K F tgt d v ∧ G d en = some e' ∧ ∀ σ', Stt X.K F e' σ' H → OwnKeep en σ e' σ' → L2.wipe σ' (own.map (·.2)) = L2.wipe σ (own.map (·.2)) → Q σ' H) (tt := tt X.K cl (fun c d _ H' => W c d σ H') T) (te := tp X.K cl (fun c d _ H' => W c d σ H') E) hs0 hf0 tk hc hN I hi ok hg (fun s H C cl' fp xe t => ht s H C cl' fp xe _ t) (fun s H C cl' fp xe t => he s H C cl' fp xe _ t) hs (tLc_ofE σ H Q h) fun D C s' m H' I' q hn f => ⟨m, hn, fun h'' sb => ?_⟩
  obtain ⟨f0, f1, f2, f3, f4, f5⟩ := f
  exact ⟨.ref D, H', I'.turned (t' := s'.toks) (fun b o hb e => (sb.2 b hb).trans e) f0 f1 f3 f4 f5, rfl, q⟩
variable {F0 H0 : Hp} {x : Str} {i : Nat} {pos' lp : Pos}
theorem pps_setLcE (hs0 : X.stack = X.env :: X.outer) (hf0 : X.env.frame = some X.env.locals) (tk : Takes X W) (hc : X.calm = true) (hN : X.N.Nodup) (hi : X.N[i]? = some x) (hx : X.env.scope.names.lookup x = some .local) (hsw : swapsWith (.ListComp elt [⟨tgt, iter, ifs, 0⟩] scope lp) (some (.Name x pos')) pos.line X.env = pure true)
    (hit : PPI X cl W tgt iter A) (ok : BlkOk X.N X.env.scope scope own)
    (hg : ∀ (s : Shared) (H : Hp) (C : Addr) (cl' : List (Str × Addr)) (fp : List Addr) (xe : Value → Shared → Prop), PPGw (blkE X s H scope (compEnvC scope cl' C X.env) fp xe) (own.map (·.2)) tgt G)
    (ht : ∀ (s : Shared) (H : Hp) (C : Addr) (cl' : List (Str × Addr)) (fp : List Addr) (xe : Value → Shared → Prop) (Wb : WX), Takes (blkE X s H scope (compEnvC scope cl' C X.env) fp xe) Wb → PPTs (blkE X s H scope (compEnvC scope cl' C X.env) fp xe) cl Wb ifs T)
    (he : ∀ (s : Shared) (H : Hp) (C : Addr) (cl' : List (Str × Addr)) (fp : List Addr) (xe : Value → Shared → Prop) (Wb : WX), Takes (blkE X s H scope (compEnvC scope cl' C X.env) fp xe) Wb → PP (blkE X s H scope (compEnvC scope cl' C X.env) fp xe) cl Wb elt E) (hs : ∀ x, foldedSetIterable iter X.env x = pure x := by intro _; rfl) :
    PPS X cl W F0 H0 (.Assign [.Name x pos'] (.ListComp elt [⟨tgt, iter, ifs, 0⟩] scope lp) pos) (fun e => inE i e (sSetN i (nLcE A (own.map (·.2)) G T E) e)) := by
  have h1 : PS X (.Assign [.Name x pos'] (.ListComp elt [⟨tgt, iter, ifs, 0⟩] scope lp) pos) (tAsg (tn X.K cl W (nLcE A (List.map (fun x : Str × Nat => x.2) own) G T E)) (gName i)) := by
    refine ⟨fun pins s σ H D I h => ?_⟩
    rw [exec_Assign_Name_used _ _ _ _ hsw]
    refine wpAny_bind (wpAny_standAt (wpAny_bind ?_))
    show wpAny _ X.A (do let _ ← comprehension (.ListComp elt [⟨tgt, iter, ifs, 0⟩] scope lp) scope X.env (firstIterPos [⟨tgt, iter, ifs, 0⟩] lp) (newList []) false (eval iter X.env) (some (assign (.Name x pos') X.env))) _ _ s
    have h : tn X.K cl W (nLcE A (List.map (fun x : Str × Nat => x.2) own) G T E) σ H (fun x H1 => gName i x σ H1 D.nx) := h
    refine wpAny_bind (thn (lc_coreE (g := fun v σ H Q => ∃ F en d e', Stt X.K F en σ H ∧ RdG X.K F tgt d v ∧ G d en = some e' ∧ ∀ σ', Stt X.K F e' σ' H → OwnKeep en σ e' σ' → L2.wipe σ' (own.map (·.2)) = L2.wipe σ (own.map (·.2)) → Q σ' H) (tt := tt X.K cl (fun c d _ H' => W c d σ H') T) (te := tp X.K cl (fun c d _ H' => W c d σ H') E) (Qf := fun _ s' => SP X pins D .next s') hs0 hf0 tk hc hN I hit ok hg (fun s H C cl' fp xe t => ht s H C cl' fp xe _ t) (fun s H C cl' fp xe t => he s H C cl' fp xe _ t) hs (tLc_ofE σ H _ h) fun L C s' m H' I' q hn f => ?_) fun _ s' hq => wpAny_pure (wpAny_pure hq))
    show wpAny _ _ (assign (.Name x pos') X.env (.ref L)) _ _ _
    refine wpAny_assign_Name (store_ok2 (v := V.ref L) I' hN hi (.inl hx) rfl (fun s2 I2 ⟨a, sb, ha⟩ => ?_) (.inr hx))
    obtain ⟨f0, f1, f2, f3, f4, f5⟩ := f
    have haC : C ≠ a := by
      rcases ha with z | z
      · rw [z]; exact f1
      · exact fun e => f4 x a z e.symm
    refine ⟨m, hn.sameBut sb haC, fun h3 sb3 => ?_⟩
    exact ⟨_, H', I2.turned (t' := s2.toks) (fun b o hb e => (sb3.2 b hb).trans e) f0 f1 f3 f4 f5, q⟩
  refine PS.imp h1 fun Dn σ H ⟨F, e, s, h⟩ => ?_
  obtain ⟨hl, h⟩ := inE_ok h
  refine goSN2 s h fun l F1 H1 p vs x1 s1 np r z h1 => ?_
  exact h1 _ _ _ (Same.refl _) (own_set s1 hl np r)
end
end M
namespace M
open PySem PySem.Spec PyProof.Rows L2

/-! ### a < b < c -/
def cCh (f g : D → D → Option D) (A B C : CE) : CE := fun e => (A e).bind fun a => (B e).bind fun b => match f a b with
  | some (.bl true) => (C e).bind fun c => ofO (g b c)
  | some (.bl false) => .ok (.bl false)
  | _ => .bad
section
variable {X : Cx} {cl : Nat → Value} {W : WX} {a b c : Expr} {A B C : CE} {f g : D → D → Option D} {op op' : CmpOp} {pos : Pos}
theorem goCh {σ : L2.St} {H : Hp} {Q : VK} (h : tp X.K cl W (cCh f g A B C) σ H Q) : tChain (rP X.K f) (rP X.K g) (tp X.K cl W A) (tp X.K cl W B) (tp X.K cl W C) σ H Q := by
  obtain ⟨F, e, st, h⟩ := h
  refine go1E st h fun x F1 H1 v x1 st1 r1 h1 => go1E st1 h1 fun y F2 H2 u x2 st2 r2 h2 => ?_
  cases q : f x y with
  | none => rw [q] at h2; exact h2.elim
  | some d =>
    rw [q] at h2
    refine ⟨F2, x, y, d, st2.sub, r1.same x2.f x2.h, r2, q, fun F3 H3 z x3 r3 => ?_⟩
    cases d with
    | bl k =>
      cases r3
      have st3 := st2.ext x3
      cases k with
      | false => exact ⟨false, rfl, iteF ((h2 : PostE X.K cl W F2 H2 σ Q (.ok (.bl false))) F3 H3 _ x3 (.of (.bl false)))⟩
      | true =>
        refine ⟨true, rfl, iteT ?_⟩
        have h3 : PostE X.K cl W F3 H3 σ Q ((C e).bind fun c => ofO (g y c)) := PostE.ext (r := (C e).bind fun c => ofO (g y c)) h2 x3
        refine go1E st3 h3 fun w' F4 H4 z' x4 st4 r4 h4 => ?_
        cases q2 : g y w' with
        | none => rw [q2] at h4; exact h4.elim
        | some d2 => rw [q2] at h4; exact ⟨F4, y, w', d2, st4.sub, (r2.same x3.f x3.h).same x4.f x4.h, r4, q2, h4⟩
    | _ => exact h2.elim
theorem pp_chain (ho : OpR X (compareOp op) (rP X.K f)) (ho' : OpR X (compareOp op') (rP X.K g)) (ha : PP X cl W a A) (hb : PP X cl W b B) (hc : PP X cl W c C) (hm : lastMarks [op, op'] [b, c] = false := by with_unfolding_all rfl) : PP X cl W (.Compare a [op, op'] [b, c] pos) (cCh f g A B C) :=
  PE.imp (pe_chain ho ho' ha hb hc hm) fun _ _ _ => goCh
theorem ppt_chain (ho : OpR X (compareOp op) (rP X.K f)) (ho' : OpR X (compareOp op') (rP X.K g)) (ha : PP X cl W a A) (hb : PP X cl W b B) (hc : PP X cl W c C) (hm : lastMarks [op, op'] [b, c] = false := by with_unfolding_all rfl) : PPT X cl W (.Compare a [op, op'] [b, c] pos) (tV (cCh f g A B C)) :=
  PT.imp (pt_chain ho ho' ha hb hc hm) fun _ _ _ => go_test fun _ _ _ => goCh
end
end M
namespace M
open PySem PySem.Spec PyProof.Rows L2

/-! ### module constants that are pairs of whole numbers -/
/-- x names the pair (i, j) that the top wrote -/
def GPair (K : PySem.W.Frag) (mg : Str → Option Value) (x : Str) (i j : Int) : Prop := ∃ (a : Addr) (t u : Tok) (n : Nat) (sl : Array (Option Value)), mg x = some (.ref a) ∧ K.lookup a = some { cls := .type "tuple", dict := none, data := .seq #[.int i t, .int j u] n, slots := sl }
section
variable {X : Cx} {cl : Nat → Value} {W : WX} {x : Str} {i j : Int} {pos : Pos}
theorem pp_gpair (hg : Gl X x) (h : GPair X.K X.mg x i j) (hd : (x == ("__debug__" : Str)) = false := by decide) : PP X cl W (.Name x pos) (cC (.tup [.int i, .int j])) := by
  obtain ⟨a, t, u, n, sl, h1, h2⟩ := h
  refine PE.imp (pe_glob (v := .ref a) hg h1 rfl hd) fun σ H Q ⟨F, e, st, h⟩ => ?_
  refine PostE.at h st.sub (.of (.tup (vs := [.int i, .int j]) (.inr ⟨_, _, n, h2, rfl, rfl, rfl, ?_, ?_⟩) (.cons (.int i) (.cons (.int j) .nil))))
  · exact (by decide : 2 ≤ 16777216)
  · exact .cons ⟨t, rfl⟩ (.cons ⟨u, rfl⟩ .nil)
end
end M
namespace M
open PySem PySem.Spec PyProof.Rows L2

/-! ### dicts whose keys are nested tuples of whole numbers -/
mutual
theorem hash_q (w w' : World) : ∀ d : D, isQ d = true → (toN d).hash w = (toN d).hash w'
  | .int _, _ => rfl
  | .tup l, h => by
    simp only [toN, NestedKey.hash]
    rw [hash_qs w w' l h]
  | .non, h => nomatch h
  | .bl _, h => nomatch h
  | .str _, h => nomatch h
  | .lst _, h => nomatch h
  | .bor _, h => nomatch h
  | .dct _ _, h => nomatch h
  | .bdc _ _, h => nomatch h
theorem hash_qs (w w' : World) : ∀ l : List D, allQ l = true → NestedKey.hashes w (toNL l) = NestedKey.hashes w' (toNL l)
  | [], _ => rfl
  | x :: l, h => by
    have a := allQ_cons h
    simp only [toNL, NestedKey.hashes]
    rw [hash_q w w' x a.1, hash_qs w w' l a.2]
end
theorem entD_w (w w' : World) : ∀ (E : DE) (vs : List Value), (∀ e ∈ E, isQ e.1 = true) → entD w E vs = entD w' E vs
  | [], _, _ => rfl
  | _ :: _, [], _ => rfl
  | e :: E, v :: vs, h => by
    show (⟨(toN e.1).hash w, .ref e.2.1, v⟩ : DictEntry) :: entD w E vs = ⟨(toN e.1).hash w', .ref e.2.1, v⟩ :: entD w' E vs
    rw [entD_w w w' E vs fun x hx => h x (List.mem_cons_of_mem _ hx), hash_q w w' e.1 (h e List.mem_cons_self)]
def xsOf (E : DE) (vs : List Value) : List (NestedKey × Addr × Value) := List.zipWith (fun e v => (toN e.1, e.2.1, v)) E vs
theorem xs_ent (P : Program) (w : World) : ∀ (E : DE) (vs : List Value), (xsOf E vs).map (entryOfKey (nestedKind P w)) = entD w E vs
  | [], _ => rfl
  | _ :: _, [] => rfl
  | e :: E, v :: vs => by
    show entryOfKey _ _ :: (xsOf E vs).map _ = _ :: entD w E vs
    rw [xs_ent P w E vs]
    rfl
theorem xs_mem : ∀ {E : DE} {vs : List Value} {x : NestedKey × Addr × Value}, x ∈ xsOf E vs → ∃ e ∈ E, x.1 = toN e.1 ∧ x.2.1 = e.2.1
  | [], _, _, h => nomatch h
  | _ :: _, [], _, h => nomatch h
  | e :: E, v :: vs, x, h => by
    rcases List.mem_cons.mp h with rfl | h
    · exact ⟨e, List.mem_cons_self, rfl, rfl⟩
    · obtain ⟨e', h1, h2⟩ := xs_mem h
      exact ⟨e', List.mem_cons_of_mem _ h1, h2⟩
theorem xs_fst : ∀ {E : DE} {vs : List Value}, E.length = vs.length → (xsOf E vs).map (·.1) = E.map fun e => toN e.1
  | [], [], _ => rfl
  | e :: E, v :: vs, h => by
    show toN e.1 :: (xsOf E vs).map _ = _
    rw [xs_fst (E := E) (vs := vs) (by simpa using h)]
    rfl
theorem toN_eq {x y : D} (hx : isQ x = true) (hy : isQ y = true) : toN x = toN y ↔ x = y := by
  refine ⟨fun h => (eqX_iff hx hy).mp ?_, fun h => by rw [h]⟩
  rw [← beq_toN x y hx hy, h]
  exact NestedKey.beq_self _
theorem nd_toN : ∀ {E : DE}, (∀ e ∈ E, isQ e.1 = true) → (E.map (·.1)).Nodup → (E.map fun e => toN e.1).Nodup
  | [], _, _ => List.nodup_nil
  | e :: E, h, n => by
    rw [List.map_cons, List.nodup_cons] at n
    rw [List.map_cons, List.nodup_cons]
    refine ⟨fun m => n.1 ?_, nd_toN (fun x hx => h x (List.mem_cons_of_mem _ hx)) n.2⟩
    obtain ⟨e', h1, h2⟩ := List.mem_map.mp m
    exact List.mem_map.mpr ⟨e', h1, (toN_eq (h e' (List.mem_cons_of_mem _ h1)) (h e List.mem_cons_self)).mp h2⟩
theorem RdE.key {K : PySem.W.Frag} {F : Hp} : ∀ {E : DE} {ks ds : List D}, RdE K F E ks ds → ∀ e ∈ E, Rd K F e.1 (.ref e.2.1)
  | _, _, _, .nil, _, h => nomatch h
  | _, _, _, .cons r q t, e, h => by
    rcases List.mem_cons.mp h with rfl | h
    · exact r
    · exact RdE.key t e h
theorem RdE.ks {K : PySem.W.Frag} {F : Hp} : ∀ {E : DE} {ks ds : List D}, RdE K F E ks ds → ks = E.map (·.1)
  | _, _, _, .nil => rfl
  | _, _, _, .cons r q t => by rw [List.map_cons, ← RdE.ks t]
def kOk (d : D) : Bool := match d with
  | .tup k => (match allQ k with | true => lowD d 8 | false => false)
  | _ => false
theorem kOk_ok {d : D} (h : kOk d = true) : isQ d = true ∧ (toN d).depth ≤ 8 ∧ ∃ l, d = .tup l := by
  unfold kOk at h
  cases d with
  | tup k =>
    simp only at h
    cases q : allQ k with
    | false => rw [q] at h; cases h
    | true =>
      rw [q] at h
      exact ⟨q, Nat.le_trans (depN _) (low_py _ 8 h), k, rfl⟩
  | _ => cases h
/-! what a dict holds -/
def findK (k : D) : List D → List D → Option D
  | x :: ks, vs => (match vs with | v :: vs => (match eqX x k with | true => some v | false => findK k ks vs) | [] => none)
  | [], _ => none
theorem dec_toN {x k : D} (hx : isQ x = true) (hk : isQ k = true) : decide (toN x = toN k) = eqX x k := by
  rw [NestedKey.decide_eq, beq_toN x k hx hk]
theorem at_find {K : PySem.W.Frag} {F : Hp} {k : D} (hk : isQ k = true) : ∀ {E : DE} {ks ds : List D} {vs : List Value}, RdE K F E ks ds → Vals (E.map (·.2.2)) vs → (∀ e ∈ E, isQ e.1 = true) →
    (findK k ks ds = none ∧ atKey (xsOf E vs) (toN k) = none) ∨ ∃ d v b u, findK k ks ds = some d ∧ Rd K F d v ∧ RelV v u ∧ atKey (xsOf E vs) (toN k) = some (b, u)
  | _, _, _, _, .nil, _, _ => .inl ⟨rfl, rfl⟩
  | _, _, _, _, .cons (k := x) (d := d) (b := b) (v := v) (E := E) r q t, .cons (b := u) (l₂ := us) rv rt, h => by
    have hd := dec_toN (h (x, b, v) List.mem_cons_self) hk
    have ih := at_find hk t rt fun e he => h e (List.mem_cons_of_mem _ he)
    have ex : atKey (xsOf ((x, b, v) :: E) (u :: us)) (toN k) = (match decide (toN x = toN k) with | true => some (b, u) | false => atKey (xsOf E us) (toN k)) := by
      show ((((toN x, b, u) :: xsOf E us).find? fun y => decide (y.1 = toN k)).map (·.2)) = _
      rw [List.find?_cons]
      cases decide (toN x = toN k) <;> rfl
    rw [ex, hd]
    simp only [findK]
    cases z : eqX x k with
    | true => exact .inr ⟨d, v, b, u, rfl, q, rv, rfl⟩
    | false => exact ih
section
variable {X : Cx} {pins : List (Addr × Obj)} {σ : St} {F H : Hp} {s : Shared} {a : Addr} {E : DE} {ks ds : List D}
theorem dct_of (I : Inv X pins σ H s) (e : H a = some (DctO a E)) : ((a == sysModules) = false ∧ E.length ≤ 900000 ∧ (E.map (·.1)).Nodup ∧ ∀ e ∈ E, isQ e.1 = true ∧ (toN e.1).depth ≤ 8 ∧ ∃ l, e.1 = .tup l) ∧ RawD s.heap a E := (I.hok a _ e).1
theorem key_at (I : Inv X pins σ H s) (sm : Same F H) {k : D} {v : V} {u : Value} (r : Rd X.K F k v) (rv : RelV v u) (hk : isQ k = true ∧ (toN k).depth ≤ 8 ∧ ∃ l, k = .tup l) : ∃ b, v = .ref b ∧ u = .ref b ∧ (nestedKind X.prog X.w).is s.heap (toN k) b := by
  obtain ⟨q, dp, l, rfl⟩ := hk
  have n := Rd.dis I sm r rv q
  cases r with
  | tup h1 h2 =>
    cases rv
    exact ⟨_, rfl, rfl, n.nest, dp⟩
theorem dofh (I : Inv X pins σ H s) (sm : Same F H) (e : H a = some (DctO a E)) (r : RdE X.K F E ks ds) : ∃ vs, Vals (E.map (·.2.2)) vs ∧ s.heap.DictOfH (nestedKind X.prog X.w) a (xsOf E vs) ∧ (a == sysModules) = false ∧ E.length ≤ 900000 ∧ ∀ e ∈ E, isQ e.1 = true := by
  obtain ⟨⟨hd, hl, nd, ok⟩, o, es, ep, vs, ho, hx, hda, rv, hes⟩ := dct_of I e
  refine ⟨vs, rv, ⟨o, es, ep, ho, hx, hda, (hes X.w).trans (xs_ent _ _ _ _).symm, fun x hx => ?_, ?_⟩, hd, hl, fun e he => (ok e he).1⟩
  · obtain ⟨e', h1, h2, h3⟩ := xs_mem hx
    obtain ⟨b, z1, z2, z3⟩ := key_at I sm (r.key e' h1) (u := .ref e'.2.1) rfl (ok e' h1)
    rw [h2, h3]
    cases z1
    exact z3
  · rw [xs_fst (by have := rv.length; simpa using this)]
    exact nd_toN (fun e he => (ok e he).1) nd
/-- d[k], k in d -/
theorem d_has (I : Inv X pins σ H s) (sm : Same F H) (e : H a = some (DctO a E)) (r : RdE X.K F E ks ds) {k : D} (hk : kOk k = true) :
    ∃ xs, s.heap.DictOfH (nestedKind X.prog X.w) a xs ∧ (a == sysModules) = false ∧ xs.length ≤ 900000 ∧ ((findK k ks ds = none ∧ atKey xs (toN k) = none) ∨ ∃ d v b u, findK k ks ds = some d ∧ Rd X.K F d v ∧ RelV v u ∧ atKey xs (toN k) = some (b, u)) := by
  obtain ⟨vs, rv, dd, hd, hl, ok⟩ := dofh I sm e r
  refine ⟨_, dd, hd, ?_, at_find (kOk_ok hk).1 r rv ok⟩
  unfold xsOf
  rw [List.length_zipWith]
  omega
/-! d[k] = v -/
def hasK (k : D) : List D → Bool
  | [] => false
  | x :: l => (match eqX x k with | true => true | false => hasK k l)
def putV (k v : D) : List D → List D → List D
  | x :: ks, vs => (match vs with | w :: vs => (match eqX x k with | true => v | false => w) :: putV k v ks vs | [] => [])
  | [], _ => []
def stoK (k v : D) (ks vs : List D) : List D × List D := match hasK k ks with
  | true => (ks, putV k v ks vs)
  | false => (ks ++ [k], vs ++ [v])
def putE (k : D) (v : V) (e : D × Addr × V) : D × Addr × V := match eqX e.1 k with | true => (e.1, e.2.1, v) | false => e
def stoE (E : DE) (k : D) (b : Addr) (v : V) : DE := match hasK k (E.map (·.1)) with
  | true => E.map (putE k v)
  | false => E ++ [(k, b, v)]
theorem putE_fst (k : D) (v : V) (E : DE) : (E.map (putE k v)).map (·.1) = E.map (·.1) := by
  rw [List.map_map]
  refine List.map_congr_left fun e _ => ?_
  show (putE k v e).1 = e.1
  unfold putE
  split <;> rfl
theorem has_mem {k : D} (hk : isQ k = true) : ∀ {l : List D}, (∀ d ∈ l, isQ d = true) → (hasK k l = true ↔ k ∈ l)
  | [], _ => by simp [hasK]
  | x :: l, h => by
    have ih := has_mem hk (l := l) fun d hd => h d (List.mem_cons_of_mem _ hd)
    simp only [hasK]
    cases q : eqX x k with
    | true => simp [(eqX_iff (h x List.mem_cons_self) hk).mp q]
    | false =>
      have ne : k ≠ x := fun z => by rw [(eqX_iff (h x List.mem_cons_self) hk).mpr z.symm] at q; cases q
      simp only [List.mem_cons, ne, false_or]
      exact ih
theorem RdE.put {K : PySem.W.Frag} {F : Hp} {k d : D} {v : V} (r : Rd K F d v) : ∀ {E : DE} {ks ds : List D}, RdE K F E ks ds → RdE K F (E.map (putE k v)) ks (putV k d ks ds)
  | _, _, _, .nil => .nil
  | _, _, _, .cons (k := x) (E := E) r1 q1 t => by
    rw [List.map_cons]
    have ih := RdE.put (k := k) r t
    simp only [putV]
    unfold putE
    cases z : eqX x k with
    | true => simp only [z]; exact .cons r1 r ih
    | false => simp only [z]; exact .cons r1 q1 ih
theorem RdE.snoc {K : PySem.W.Frag} {F : Hp} {k d : D} {b : Addr} {v : V} (rk : Rd K F k (.ref b)) (r : Rd K F d v) : ∀ {E : DE} {ks ds : List D}, RdE K F E ks ds → RdE K F (E ++ [(k, b, v)]) (ks ++ [k]) (ds ++ [d])
  | _, _, _, .nil => .cons rk r .nil
  | _, _, _, .cons r1 q1 t => .cons r1 q1 (RdE.snoc rk r t)
theorem RdE.sto {K : PySem.W.Frag} {F : Hp} {k d : D} {b : Addr} {v : V} (rk : Rd K F k (.ref b)) (r : Rd K F d v) {E : DE} {ks ds : List D} (h : RdE K F E ks ds) : RdE K F (stoE E k b v) (stoK k d ks ds).1 (stoK k d ks ds).2 := by
  unfold stoE stoK
  rw [← h.ks]
  cases hasK k ks with
  | true => exact h.put r
  | false => exact h.snoc rk r
theorem at_has {k : D} (hk : isQ k = true) : ∀ {E : DE} {vs : List Value}, E.length = vs.length → (∀ e ∈ E, isQ e.1 = true) → (atKey (xsOf E vs) (toN k)).isSome = hasK k (E.map (·.1))
  | [], [], _, _ => rfl
  | e :: E, v :: vs, hl, h => by
    have ih := at_has hk (E := E) (vs := vs) (by simpa using hl) fun x hx => h x (List.mem_cons_of_mem _ hx)
    have ex : atKey (xsOf (e :: E) (v :: vs)) (toN k) = (match decide (toN e.1 = toN k) with | true => some (e.2.1, v) | false => atKey (xsOf E vs) (toN k)) := by
      show ((((toN e.1, e.2.1, v) :: xsOf E vs).find? fun y => decide (y.1 = toN k)).map (·.2)) = _
      rw [List.find?_cons]
      cases decide (toN e.1 = toN k) <;> rfl
    rw [ex, dec_toN (h e List.mem_cons_self) hk, List.map_cons]
    simp only [hasK]
    cases z : eqX e.1 k with
    | true => rfl
    | false => exact ih
theorem xs_put {k : D} (hk : isQ k = true) {v : V} {u : Value} (rv : RelV v u) : ∀ {E : DE} {vs : List Value}, Vals (E.map (·.2.2)) vs → (∀ e ∈ E, isQ e.1 = true) →
    ∃ vs', Vals ((E.map (putE k v)).map (·.2.2)) vs' ∧ (xsOf E vs).map (putAt (toN k) u) = xsOf (E.map (putE k v)) vs'
  | [], _, .nil, _ => ⟨[], .nil, rfl⟩
  | e :: E, _, .cons (b := w) (l₂ := ws) r t, h => by
    obtain ⟨vs', h1, h2⟩ := xs_put hk rv t fun x hx => h x (List.mem_cons_of_mem _ hx)
    have hd := dec_toN (h e List.mem_cons_self) hk
    have c : (xsOf (e :: E) (w :: ws)).map (putAt (toN k) u) = putAt (toN k) u (toN e.1, e.2.1, w) :: (xsOf E ws).map (putAt (toN k) u) := rfl
    rw [c, h2]
    simp only [List.map_cons]
    cases z : eqX e.1 k with
    | true =>
      rw [z] at hd
      have hd' := of_decide_eq_true hd
      refine ⟨u :: vs', ?_, ?_⟩
      · have : (putE k v e).2.2 = v := by unfold putE; rw [z]
        rw [this]; exact .cons rv h1
      · have p : putE k v e = (e.1, e.2.1, v) := by unfold putE; rw [z]
        rw [p]
        unfold putAt
        rw [if_pos hd']
        rfl
    | false =>
      rw [z] at hd
      have hd' := of_decide_eq_false hd
      have p : putE k v e = e := by unfold putE; rw [z]
      refine ⟨w :: vs', ?_, ?_⟩
      · rw [p]; exact .cons r h1
      · rw [p]
        unfold putAt
        rw [if_neg hd']
        rfl
theorem Vals.snoc {v : V} {u : Value} (r : RelV v u) : ∀ {vs : List V} {us : List Value}, Vals vs us → Vals (vs ++ [v]) (us ++ [u])
  | _, _, .nil => .cons r .nil
  | _, _, .cons q t => .cons q (Vals.snoc r t)
theorem xs_sto {k : D} (hk : isQ k = true) {v : V} {u : Value} (rv : RelV v u) (b : Addr) {E : DE} {vs : List Value} (r : Vals (E.map (·.2.2)) vs) (h : ∀ e ∈ E, isQ e.1 = true) :
    ∃ vs', Vals ((stoE E k b v).map (·.2.2)) vs' ∧ storedH (xsOf E vs) (toN k) b u = xsOf (stoE E k b v) vs' := by
  have hl : E.length = vs.length := by have := r.length; simpa using this
  unfold storedH stoE
  rw [at_has hk hl h]
  cases q : hasK k (E.map (·.1)) with
  | true =>
    rw [if_pos rfl]
    exact xs_put hk rv r h
  | false =>
    rw [if_neg (by decide)]
    refine ⟨vs ++ [u], ?_, ?_⟩
    · rw [List.map_append]; exact r.snoc rv
    · unfold xsOf
      rw [List.zipWith_append hl]
      rfl
theorem sto_fst {k : D} (hk : isQ k = true) (b : Addr) (v : V) {E : DE} (h : ∀ e ∈ E, isQ e.1 = true) (n : (E.map (·.1)).Nodup) : ((stoE E k b v).map (·.1)).Nodup := by
  unfold stoE
  cases q : hasK k (E.map (·.1)) with
  | true => rw [show (E.map (putE k v)).map (·.1) = E.map (·.1) from putE_fst k v E]; exact n
  | false =>
    rw [List.map_append]
    refine List.nodup_append.mpr ⟨n, by simp, fun x hx y hy => ?_⟩
    simp only [List.map_cons, List.map_nil, List.mem_singleton] at hy
    subst hy
    rintro rfl
    rw [(has_mem hk (fun d hd => by obtain ⟨e, he, rfl⟩ := List.mem_map.mp hd; exact h e he)).mpr hx] at q
    cases q
theorem sto_mem {k : D} {b : Addr} {v : V} {E : DE} {p : D → Prop} (hk : p k) (h : ∀ e ∈ E, p e.1) : ∀ e ∈ stoE E k b v, p e.1 := by
  unfold stoE
  cases hasK k (E.map (·.1)) with
  | true =>
    intro e he
    obtain ⟨e', h1, rfl⟩ := List.mem_map.mp he
    have : (putE k v e').1 = e'.1 := by unfold putE; split <;> rfl
    rw [this]
    exact h e' h1
  | false =>
    intro e he
    rcases List.mem_append.mp he with z | z
    · exact h e z
    · rw [List.mem_singleton.mp z]; exact hk
theorem sto_len (k : D) (b : Addr) (v : V) (E : DE) : (stoE E k b v).length ≤ E.length + 1 := by
  unfold stoE
  cases hasK k (E.map (·.1)) with
  | true => simp
  | false => simp
/-- what a dict's object is to be -/
theorem dct_new {h' : Heap} {H' : Hp} {P : Program} {w w2 : World} {vs : List Value} (hd : (a == sysModules) = false) (hl : E.length ≤ 900000) (nd : (E.map (·.1)).Nodup) (ok : ∀ e ∈ E, isQ e.1 = true ∧ (toN e.1).depth ≤ 8 ∧ ∃ l, e.1 = .tup l)
    (rv : Vals (E.map (·.2.2)) vs) (dd : h'.DictOfH (nestedKind P w) a (xsOf E vs)) : ObjOk P w2 H' h' a (DctO a E) := by
  obtain ⟨o, es, ep, ho, hx, hda, hes, _, _⟩ := dd
  refine ⟨⟨⟨hd, hl, nd, ok⟩, o, es, ep, vs, ho, hx, hda, rv, fun w' => ?_⟩, ⟨o, ho⟩, fun h1 h2 hp hk => ?_⟩
  · rw [hes, xs_ent]
    exact entD_w _ _ _ _ fun e he => (ok e he).1
  · obtain ⟨a1, o', es', ep', vs', ho', z⟩ := hp
    exact ⟨a1, o', es', ep', vs', hk o' ho', z⟩
theorem d_put {Ea : Value → Shared → Prop} {A : Around} {k : D} {kv v : V} {ku u : Value} {Q : Unit → Shared → Prop} (hu : A.units + 16 < cLine) (I : Inv X pins σ H s) (sm : Same F H) (e : H a = some (DctO a E)) (r : RdE X.K F E ks ds) (hk : kOk k = true) (hsz : E.length < 900000) (rk : Rd X.K F k kv)
    (rku : RelV kv ku) (rv : RelV v u) (h : ∀ s' b, kv = .ref b → Inv X pins σ (upd H a (DctO a (stoE E k b v))) s' → Q () s') : wpAny (model X.prog X.w) A (setItem (.ref a) ku u) Q Ea s := by
  obtain ⟨vs, rvs, dd, hd, hl, ok⟩ := dofh I sm e r
  obtain ⟨b, rfl, rfl, ki⟩ := key_at I sm rk rku (kOk_ok hk)
  have hkq := (kOk_ok hk).1
  have d0 := dct_of I e
  refine wpAny_setItem_heap (knd := nestedKind X.prog X.w) (hsz := by unfold xsOf; rw [List.length_zipWith, sizeLine_eq]; omega) (by show A.units + 1 + 8 < cLine; omega) ki dd fun h' dd' hs => h _ b rfl ?_
  · obtain ⟨vs', h1, h2⟩ := xs_sto hkq rv b rvs ok
    rw [h2] at dd'
    have he : ∃ q, h'.get? a = some q := let ⟨q, _, _, hq, _⟩ := dd'; ⟨q, hq⟩
    exact d_write I (by rw [e]; exact True.intro) hs he (dct_new hd (Nat.le_trans (sto_len k b v E) hsz) (sto_fst hkq b v ok d0.1.2.2.1) (sto_mem (p := fun d => isQ d = true ∧ (toN d).depth ≤ 8 ∧ ∃ l, d = .tup l) (kOk_ok hk) d0.1.2.2.2) h1 dd')
/-- {} -/
theorem dct_empty {P : Program} {w : World} {H' : Hp} (h : Heap) (hb : sysModules < h.objs.size) : ObjOk P w H' (h.push { cls := .type "dict", data := .dict #[] }) h.objs.size (DctO h.objs.size []) :=
  dct_new (vs := []) (P := P) (w := w) (beq_eq_false_iff_ne.mpr (Ne.symm (Nat.ne_of_lt hb))) (Nat.zero_le _) List.nodup_nil (fun _ h => nomatch h) .nil (Heap.DictOfH.new h)
end
end M
namespace M
open PySem PySem.Spec PyProof.Rows L2

/-! ### dicts: what is read -/
def dctOf : D → Option (List D × List D)
  | .dct ks vs => some (ks, vs)
  | .bdc ks vs => some (ks, vs)
  | _ => none
theorem RdT.dct {K : PySem.W.Frag} {F H : Hp} (sm : Same F H) {d : D} {v : V} {ks ds : List D} (r : RdT K F H d v) (e : dctOf d = some (ks, ds)) : ∃ a E, v = .ref a ∧ H a = some (DctO a E) ∧ RdE K F E ks ds := by
  cases d with
  | dct k2 d2 => cases e; cases r with | dct h1 r1 => exact ⟨_, _, rfl, sm _ _ h1, r1⟩
  | bdc k2 d2 => cases e; exact r
  | _ => cases e
theorem solid_of_kOk {d : D} (h : kOk d = true) : d.solid = true := by
  obtain ⟨_, _, l, rfl⟩ := kOk_ok h
  rfl
def inK (x : D) (ks vs : List D) : Option Bool := match kOk x with
  | true => (match findK x ks vs with | some _ => some true | none => some false)
  | false => none
def inD2 (x y : D) : Option D := match dctOf y with
  | some (ks, vs) => (match inK x ks vs with | some b => some (.bl b) | none => none)
  | none => inD x y
def notInD2 (x y : D) : Option D := match dctOf y with
  | some (ks, vs) => (match inK x ks vs with | some b => some (.bl (!b)) | none => none)
  | none => notInD x y
def ixD2 (x y : D) : Option D := match dctOf x with
  | some (ks, vs) => (match kOk y with | true => findK y ks vs | false => none)
  | none => ixD x y
def getD2 (x y z : D) : Option D := match dctOf x with
  | some (ks, vs) => (match kOk y with | true => (match findK y ks vs with | some v => some v | none => some z) | false => none)
  | none => none
section
variable {X : Cx} {pins : List (Addr × Obj)} {σ : St} {F H : Hp} {s : Shared} {a : Addr} {E : DE} {ks ds : List D}
theorem op_inP2 (hu : X.A.units + 64 < cLine) : OpR X (compareOp .In) (rP X.K inD2) := by
  intro pins s σ H x y v u Q I rx ry h
  obtain ⟨F, a, b, d, sm, ra, rb, e, q⟩ := h
  unfold inD2 at e
  cases z : dctOf b with
  | none => rw [z] at e; exact op_inP hu pins s σ H x y v u Q I rx ry ⟨F, a, b, d, sm, ra, rb, e, q⟩
  | some p =>
    obtain ⟨ks, ds⟩ := p
    rw [z] at e
    simp only [inK] at e
    cases zk : kOk a with
    | false => rw [zk] at e; cases e
    | true =>
      rw [zk] at e
      obtain ⟨p, E, rfl, h1, r1⟩ := rb.dct sm z
      cases ry
      obtain ⟨xs, dd, hd, hl, c⟩ := d_has I sm h1 r1 zk
      obtain ⟨b0, rfl, rfl, ki⟩ := key_at I sm (ra.rd (solid_of_kOk zk)) rx (kOk_ok zk)
      refine wpAny_in_heap (knd := nestedKind X.prog X.w) (by show X.A.units + 1 + 8 < cLine; omega) ki hd dd ?_
      rcases c with ⟨c1, c2⟩ | ⟨d', v', b', u', c1, _, _, c2⟩
      · rw [c1] at e; cases e
        rw [c2]
        exact ⟨.bl _, H, I.tok _, rfl, ext_same sm q (.bl _)⟩
      · rw [c1] at e; cases e
        rw [c2]
        exact ⟨.bl _, H, I.tok _, rfl, ext_same sm q (.bl _)⟩
theorem op_notInP2 (hu : X.A.units + 64 < cLine) : OpR X (compareOp .NotIn) (rP X.K notInD2) := by
  intro pins s σ H x y v u Q I rx ry h
  obtain ⟨F, a, b, d, sm, ra, rb, e, q⟩ := h
  unfold notInD2 at e
  cases z : dctOf b with
  | none => rw [z] at e; exact op_notInP hu pins s σ H x y v u Q I rx ry ⟨F, a, b, d, sm, ra, rb, e, q⟩
  | some p =>
    obtain ⟨ks, ds⟩ := p
    rw [z] at e
    simp only [inK] at e
    cases zk : kOk a with
    | false => rw [zk] at e; cases e
    | true =>
      rw [zk] at e
      obtain ⟨p, E, rfl, h1, r1⟩ := rb.dct sm z
      cases ry
      obtain ⟨xs, dd, hd, hl, c⟩ := d_has I sm h1 r1 zk
      obtain ⟨b0, rfl, rfl, ki⟩ := key_at I sm (ra.rd (solid_of_kOk zk)) rx (kOk_ok zk)
      refine wpAny_notIn_heap (knd := nestedKind X.prog X.w) (by show X.A.units + 1 + 8 < cLine; omega) ki hd dd ?_
      rcases c with ⟨c1, c2⟩ | ⟨d', v', b', u', c1, _, _, c2⟩
      · rw [c1] at e; cases e
        rw [c2]
        exact ⟨.bl _, H, I.tok _, rfl, ext_same sm q (.bl _)⟩
      · rw [c1] at e; cases e
        rw [c2]
        exact ⟨.bl _, H, I.tok _, rfl, ext_same sm q (.bl _)⟩
theorem ix_P2 (hu : X.A.units + 64 < cLine) : IxR X (rP X.K ixD2) := by
  intro value slice pins s σ H x y v u Q I rx ry h hs
  obtain ⟨F, a, b, d, sm, ra, rb, e, q⟩ := h
  unfold ixD2 at e
  cases z : dctOf a with
  | none => rw [z] at e; exact ix_P value slice pins s σ H x y v u Q I rx ry ⟨F, a, b, d, sm, ra, rb, e, q⟩ hs
  | some p =>
    obtain ⟨ks, ds⟩ := p
    rw [z] at e
    simp only at e
    cases zk : kOk b with
    | false => rw [zk] at e; cases e
    | true =>
      rw [zk] at e
      obtain ⟨p, E, rfl, h1, r1⟩ := ra.dct sm z
      cases rx
      obtain ⟨xs, dd, hd, hl, c⟩ := d_has I sm h1 r1 zk
      obtain ⟨b0, rfl, rfl, ki⟩ := key_at I sm (rb.rd (solid_of_kOk zk)) ry (kOk_ok zk)
      rcases c with ⟨c1, c2⟩ | ⟨d', v', b', u', c1, rd', rv', c2⟩
      · simp only [c1] at e; cases e
      · simp only [c1] at e; cases e
        exact subscriptTail_builtinR (x := u') dd.typeIs PySem.F.slot_dict_getitem.lookup
          (wpAny_getItem_heap (knd := nestedKind X.prog X.w) (Q := fun r s' => r = u' ∧ EP X pins σ Q r s') (by show X.A.units + 1 + 8 < cLine; omega) ki dd c2 ⟨rfl, v', H, I.tok _, rv', ext_same sm q (.of rd')⟩) hs
end
/-- d.get(k, x) -/
def cGet (A B C : CE) : CE := fun e => (A e).bind fun d => match dctOf d with
  | some _ => (B e).bind fun k => (C e).bind fun x => ofO (getD2 d k x)
  | none => .bad
def rGet2 (K : PySem.W.Frag) (x y z : V) (H : Hp) (Q : VK) : Prop := ∃ F a E ks ds k, x = .ref a ∧ H a = some (DctO a E) ∧ Same F H ∧ RdE K F E ks ds ∧ kOk k = true ∧ Rd K F k y ∧
  (findK k ks ds = none → Q z H) ∧ ∀ d v, findK k ks ds = some d → Rd K F d v → Q v H
def tGet2 (K : PySem.W.Frag) (td ty tx : TE) : TE := fun σ H Q => td σ H fun x H1 => (∃ a E, x = .ref a ∧ H1 a = some (DctO a E)) ∧ ty σ H1 fun y H2 => tx σ H2 fun z H3 => rGet2 K x y z H3 Q
section
variable {X : Cx} {cl : Nat → Value} {W : WX} {F0 H0 : Hp} {o e f : Expr} {A B C : CE} {apos cpos pos : Pos} {td ty tx : TE}
theorem pe_get2 (hu : X.A.units + 64 < cLine) (ho : PE X o td) (he : PE X e ty) (hf : PE X f tx)
    (hbase : attributeBase o "get" X.env (eval o X.env) = eval o X.env := by rfl)
    (hfew : ((backTo cpos (starEach [e, f] X.env)).all (fun x => !x.1) && (backToKw cpos (keywordEach [] X.env)).all (fun x => x.1.isSome)
      && decide (([e, f] : List Expr).length + ([] : List Keyword).length + (if ([] : List Keyword).isEmpty then 0 else 1) < 30)) = true := by rfl)
    (hline : (apos.endLine == cpos.line) = true := by rfl) (htrees : backTo cpos (starEach [e, f] X.env) = [(false, eval e X.env), (false, eval f X.env)] := by rfl) :
    PE X (.Call (.Attribute o "get" apos) [e, f] [] cpos) (tGet2 X.K td ty tx) := by
  refine ⟨fun pins s σ H Q I h => ?_⟩
  refine wpAny_Call_method hbase hfew hline PySem.F.plainAttrs_dict PySem.F.slot_dict_get PySem.F.type_dict_get (thn (ho.run pins s σ H _ I h) fun u s1 ⟨x, H1, I1, rx, ⟨a, E, ex, e1⟩, q1⟩ => ?_)
  subst ex
  obtain rfl : u = Value.ref a := rx
  obtain ⟨_, ob, es, ep, vs, hob, hx, _⟩ := dct_of I1 e1
  refine ⟨⟨ob, hob, hx.1⟩, fun b q => by cases q; exact ⟨ob, hob, hx.2.1⟩, ?_⟩
  rw [htrees]
  refine Calls.callWith_builtin rfl (Calls.evalArgs_plain (Calls.spliced_cons (thn (he.run pins s1 σ H1 _ I1 q1) fun iv s2 ⟨y, H2, I2, ry, q2⟩ =>
    Calls.spliced_cons (thn (hf.run pins s2 σ H2 _ I2 q2) fun fv s3 ⟨z, H3, I3, rz, q3⟩ => Calls.spliced_nil ?_))))
  obtain ⟨F, a', E', ks, ds, k, ea, h1, sm, r1, zk, rk, qn, qs⟩ := q3
  cases ea
  obtain ⟨xs, dd, hd, hl, c⟩ := d_has I3 sm h1 r1 zk
  obtain ⟨b0, rfl, rfl, ki⟩ := key_at I3 sm rk ry (kOk_ok zk)
  refine call_meetsIn PySem.F.slot_dict_get dd.typeIs PySem.F.entry_dict_get (PySem.F.args_dict_get_3 _ _ _) (meetsH_dict_get_default (nestedKind X.prog X.w) a b0 hd fv) ⟨by show X.A.units + 1 + 8 < cLine; omega, toN k, xs, ki, dd, ?_⟩
  rcases c with ⟨c1, c2⟩ | ⟨d', v', b', u', c1, rd', rv', c2⟩
  · rw [c2]
    exact ⟨z, H3, I3.tok _, rz, qn c1⟩
  · rw [c2]
    exact ⟨v', H3, I3.tok _, rv', qs _ _ c1 rd'⟩
theorem pp_get2 (hu : X.A.units + 64 < cLine) (ho : PP X cl W o A) (he : PP X cl W e B) (hf : PP X cl W f C)
    (hbase : attributeBase o "get" X.env (eval o X.env) = eval o X.env := by rfl)
    (hfew : ((backTo cpos (starEach [e, f] X.env)).all (fun x => !x.1) && (backToKw cpos (keywordEach [] X.env)).all (fun x => x.1.isSome)
      && decide (([e, f] : List Expr).length + ([] : List Keyword).length + (if ([] : List Keyword).isEmpty then 0 else 1) < 30)) = true := by rfl)
    (hline : (apos.endLine == cpos.line) = true := by rfl) (htrees : backTo cpos (starEach [e, f] X.env) = [(false, eval e X.env), (false, eval f X.env)] := by rfl) :
    PP X cl W (.Call (.Attribute o "get" apos) [e, f] [] cpos) (cGet A B C) := PE.imp (pe_get2 hu ho he hf hbase hfew hline htrees) fun σ H Q ⟨F, e, st, h⟩ => by
  refine go1E st h fun d F1 H1 v x1 st1 r1 h1 => ?_
  cases z : dctOf d with
  | none => rw [z] at h1; exact h1.elim
  | some p =>
    obtain ⟨ks, ds⟩ := p
    rw [z] at h1
    obtain ⟨a, E, rfl, e1, rE1⟩ := r1.dct st1.sub z
    refine ⟨⟨a, E, rfl, e1⟩, go1E st1 h1 fun k F2 H2 v2 x2 st2 r2 h2 => go1E st2 h2 fun x F3 H3 v3 x3 st3 r3 h3 => ?_⟩
    simp only [getD2, z] at h3
    cases zk : kOk k with
    | false => rw [zk] at h3; exact h3.elim
    | true =>
      rw [zk] at h3
      have xx := x2.trans x3
      refine ⟨F3, a, E, ks, ds, k, rfl, xx.h _ _ e1, st3.sub, rE1.same xx.f, zk, (r2.rd (solid_of_kOk zk)).same x3.f, fun c => ?_, fun d' v' c rd' => ?_⟩
      · rw [c] at h3
        exact PostE.at h3 st3.sub r3
      · rw [c] at h3
        exact PostE.at h3 st3.sub (.of rd')
theorem pp_ix2 {a b : Expr} (hu : X.A.units + 64 < cLine) (ha : PP X cl W a A) (hb : PP X cl W b B) (hs : PlainIx b := by exact fun _ _ => rfl) : PP X cl W (.Subscript a b pos) (c2 ixD2 A B) := PE.imp (pe_ix (ix_P2 hu) ha hb hs) fun _ _ _ => go2
end
end M
namespace M
open PySem PySem.Spec PyProof.Rows L2

/-! ### expressions whose value goes into a slot: data, a new list, a new dict -/
abbrev CU := En → Res Sl
def PostU (K : PySem.W.Frag) (cl : Nat → Value) (W : WX) (F H : Hp) (σ : St) (Q : VK) : Res Sl → Prop
  | .ok o => ∀ F' H' v, Ext F H F' H' → SlOk K F' H' (some (some v)) o → (o.isOwn = true → ∀ a, v = .ref a → H a = none) → Q v H'
  | .exc c => ∀ F' H', Ext F H F' H' → W (cl c) none σ H'
  | .bad => False
def tU (K : PySem.W.Frag) (cl : Nat → Value) (W : WX) (A : CU) : TE := fun σ H Q => ∃ F e, Stt K F e σ H ∧ PostU K cl W F H σ Q (A e)
def PPU (X : Cx) (cl : Nat → Value) (W : WX) (e : Expr) (A : CU) : Prop := PE X e (tU X.K cl W A)
def uD (A : CE) : CU := fun e => (A e).bind fun d => match d.solid with | true => .ok (.dat d) | false => .bad
def uL (L : CA) : CU := fun e => (L e).bind fun l => .ok (.own l)
def uDn : CU := fun _ => .ok (.owd [] [])
def unU : Sl → Res D
  | .dat d => .ok d
  | .own l => .ok (.lst l)
  | .owd ks vs => .ok (.dct ks vs)
  | .no => .bad
def cU (A : CU) : CE := fun e => (A e).bind unU
section
variable {X : Cx} {cl : Nat → Value} {W : WX} {F0 H0 : Hp} {a b : Expr} {A : CE} {L : CA} {O O2 : CU} {pos : Pos} {K : PySem.W.Frag}
theorem ext_own {F H F' H' : Hp} {a : Addr} (x : Ext F H F' H') {σ : St} {e : En} (n : H a = none) : F a = none → True := fun _ => trivial
theorem ppu_dat (h : PP X cl W a A) : PPU X cl W a (uD A) := PE.imp h fun σ H Q ⟨F, e, st, h⟩ => by
  refine ⟨F, e, st, ?_⟩
  unfold uD at h
  cases q : A e with
  | exc c => rw [q] at h; exact h
  | bad => rw [q] at h; exact h
  | ok d =>
    rw [q] at h
    cases z : d.solid with
    | false => simp only [Res.bind, z] at h; exact h.elim
    | true =>
      simp only [Res.bind, z] at h
      exact fun F' H' v x r => h F' H' v x ⟨v, rfl, r.rd z⟩ (fun c => nomatch c)
theorem ppu_lst (h : PPN X cl W a L) : PPU X cl W a (uL L) := PE.imp h fun σ H Q ⟨F, e, st, h⟩ => by
  refine ⟨F, e, st, ?_⟩
  unfold uL at h
  cases q : L e with
  | exc c => rw [q] at h; exact h
  | bad => rw [q] at h; exact h
  | ok l =>
    rw [q] at h
    intro F' H' p vs x np r z
    have w := Ext.add x.sub np (.lst vs)
    have nF : F' p = none := by
      cases q : F' p with
      | none => rfl
      | some o => rw [x.sub _ _ q] at np; cases np
    exact h F' _ (.ref p) (x.trans w) ⟨p, vs, rfl, upd_same, nF, r⟩ (fun _ b e => by cases e; exact x.h.free np)
theorem ppu_dnew : PPU X cl W (.Dict [] [] pos) uDn := ⟨fun pins s σ H Q I ⟨F, e, st, h⟩ =>
  have hn := I.hok.fresh (Nat.le_refl s.heap.objs.size)
  have w := Ext.add st.sub hn (DctO s.heap.objs.size [])
  have nF : F s.heap.objs.size = none := by
    cases q : F s.heap.objs.size with
    | none => rfl
    | some o => have := st.sub _ _ q; rw [hn] at this; cases this
  wpAny_Dict_empty ⟨.ref s.heap.objs.size, _, I.laid (a := s.heap.objs.size) (o := DctO s.heap.objs.size []) (t' := s.toks) (fun _ _ q => Heap.get?_push_of_some _ q) (Nat.le_refl _) (dct_empty s.heap I.big), rfl,
    h F _ (.ref s.heap.objs.size) w ⟨_, [], rfl, upd_same, nF, .nil⟩ (fun _ b e => by cases e; exact hn)⟩⟩
/-- as data -/
theorem PPU.pp (h : PPU X cl W a O) : PP X cl W a (cU O) := PE.imp h fun σ H Q ⟨F, e, st, h⟩ => by
  refine ⟨F, e, st, ?_⟩
  unfold cU at h
  cases q : O e with
  | exc c => rw [q] at h; exact h
  | bad => rw [q] at h; exact h
  | ok o =>
    rw [q] at h
    intro F' H' v x ok fr
    have put : ∀ (p : Addr) (u : HO), H p = none → H' p = some u → F' p = none → Ext F H (upd F' p u) H' := fun p u hp hp' nF => by
      have s1 : Same F' (upd F' p u) := fun b t z => by rw [upd_ne (ne_of_none z nF)]; exact z
      refine ⟨x.f.trans s1, x.h, fun b t z => ?_, fun b t z => ?_⟩
      · by_cases hb : b = p
        · subst hb; rw [upd_same] at z; cases z; exact hp'
        · rw [upd_ne hb] at z; exact x.sub _ _ z
      · by_cases hb : b = p
        · subst hb; exact .inr hp
        · rw [upd_ne hb] at z; exact x.new _ _ z
    cases o with
    | no => exact h.elim
    | dat d =>
      obtain ⟨v', e1, r⟩ := ok
      cases e1
      exact h F' H' v x (.of r)
    | own l =>
      obtain ⟨p, vs, e1, h1, nF, r⟩ := ok
      cases e1
      have w := put p _ (fr rfl p rfl) h1 nF
      have s1 : Same F' (upd F' p (.lst vs)) := fun b t z => by rw [upd_ne (ne_of_none z nF)]; exact z
      exact h _ H' _ w (.of (.lst upd_same (r.same s1)))
    | owd ks ds =>
      obtain ⟨p, E, e1, h1, nF, r⟩ := ok
      cases e1
      have w := put p _ (fr rfl p rfl) h1 nF
      have s1 : Same F' (upd F' p (DctO p E)) := fun b t z => by rw [upd_ne (ne_of_none z nF)]; exact z
      exact h _ H' _ w (.of (.dct upd_same (r.same s1)))
def rU (r : Res Sl) (e : En) (f : Sl → RS) : RS := match r with | .ok d => f d | .exc c => .exc c e | .bad => .bad
theorem goSU {F H : Hp} {e : En} {σ : St} {R : VK} {Dn : Ends} {f : Sl → RS} (s : StS K F0 H0 F e σ H) (h : PostS K cl W F0 H0 F Dn (rU (O e) e f))
    (k : ∀ o F' H' v, Ext F H F' H' → StS K F0 H0 F' e σ H' → SlOk K F' H' (some (some v)) o → (o.isOwn = true → ∀ a, v = .ref a → H a = none) → PostS K cl W F0 H0 F' Dn (f o) → R v H') : tU K cl W O σ H R := by
  refine ⟨F, e, s.st, ?_⟩
  cases q : O e with
  | ok o => rw [q] at h; exact fun F' H' v x r n => k o F' H' v x (s.grow x) r n (PostS.grow (r := f o) _ _ _ _ _ x.f h)
  | exc c => rw [q] at h; exact fun F' H' x => h F' σ H' x.f (s.grow x)
  | bad => rw [q] at h; exact h
/-- a thing made since H is put into a slot -/
theorem StS.putU {F H Hb Fb : Hp} {e e' : En} {σ σ' : St} {i : Nat} {o : Sl} {v : V} (sb : StS K F0 H0 Fb e σ Hb) (s1 : StS K F0 H0 F e' σ' H) (hl : i < e'.length) (ok : SlOk K F H (some (some v)) o) (fr : o.isOwn = true → ∀ a, v = .ref a → Hb a = none)
    (sep : o.isOwn = true → ∀ (j : Nat) (t : Sl) (b : Addr), t.isOwn = true → i ≠ j → e'[j]? = some t → σ'[j]? = some (some (.ref b)) → (e[j]? = some t ∧ σ[j]? = some (some (.ref b))) ∨ v ≠ .ref b) : StS K F0 H0 F (e'.set i o) (σ'.set i (some v)) H := by
  refine s1.put hl ok (fun ho a ha => (sb.nF (fr ho a ha)).2) fun ho j t b ht hj q1 q2 hv => ?_
  rcases sep ho j t b ht hj q1 q2 with ⟨z1, z2⟩ | z
  · exact sb.ne (fr ho b hv) j t b ht z1 z2 rfl
  · exact z hv
def sSetU (i : Nat) (O : CU) : CS := fun e => inE i e (rU (O e) e fun o => .nx (e.set i o))
theorem pps_setU {i : Nat} {x : Str} {pos' : Pos} (hN : X.N.Nodup) (hi : X.N[i]? = some x) (hx : Loc X.env.scope x) (ha : PPU X cl W a O) (hs : swapsWith a (some (.Name x pos')) pos.line X.env = pure false := by rfl) (hf : X.fn x = true ∨ X.env.scope.names.lookup x = some .local := by first | exact .inl rfl | exact .inr rfl | assumption) :
    PPS X cl W F0 H0 (.Assign [.Name x pos'] a pos) (sSetU i O) := PS.imp (ps_set hN hi hx ha hs hf) fun Dn σ H ⟨F, e, s, h⟩ => by
  obtain ⟨hl, h⟩ := inE_ok h
  refine goSU s h fun o F1 H1 v x1 s1 ok fr h1 => ?_
  exact h1 _ _ _ (Same.refl _) (s.putU s1 hl ok fr fun _ j t b _ _ q1 q2 => .inl ⟨q1, q2⟩)
def sParU (i j : Nat) (O O2 : CU) : CS := fun e => inE i e (inE j e (rU (O e) e fun o => rU (O2 e) e fun o2 => .nx ((e.set i o).set j o2)))
theorem pps_parU {i j : Nat} {x y : Str} {px py pt : Pos} {kt k2 pt2} (hc : X.calm = true) (hN : X.N.Nodup) (hi : X.N[i]? = some x) (hj : X.N[j]? = some y) (hij : i ≠ j)
    (hx : X.env.scope.names.lookup x = some .local) (hy : X.env.scope.names.lookup y = some .local) (ha : PPU X cl W a O) (hb : PPU X cl W b O2)
    (hw : swappedStores [.Tuple [.Name x px, .Name y py] kt pt] (.Tuple [a, b] k2 pt2) X.env = pure (some [x, y]))
    (hs : swapsWithSole [.Tuple [.Name x px, .Name y py] kt pt] (.Tuple [a, b] k2 pt2) pos.line X.env = pure false := by rfl)
    (h1 : starEach [a, b] X.env = (false, eval a X.env) :: starEach [b] X.env := by rfl) (h2 : starEach [b] X.env = (false, eval b X.env) :: starEach [] X.env := by rfl) :
    PPS X cl W F0 H0 (.Assign [.Tuple [.Name x px, .Name y py] kt pt] (.Tuple [a, b] k2 pt2) pos) (sParU i j O O2) := PS.imp (ps_par hc hN hi hj hij hx hy (pa_cons ha (pa_cons hb pa_nil h2) h1) hw hs) fun Dn σ H ⟨F, e, s, h⟩ => by
  obtain ⟨hli, h⟩ := inE_ok h
  obtain ⟨hl, h⟩ := inE_ok h
  refine goSU s h fun o F1 H1 v x1 s1 ok fr h1 => ?_
  refine goSU s1 h1 fun o2 F2 H2 v2 x2 s2 ok2 fr2 h2 => ?_
  have p1 := s.putU s2 hli (ok.ext x2) fr fun _ j t b _ _ q1 q2 => .inl ⟨q1, q2⟩
  have hlσ : i < σ.length := by rw [← s.st.len]; exact hli
  have ok1 := ok
  refine ⟨_, _, rfl, h2 _ _ _ (Same.refl _) (s1.putU p1 (by rw [List.length_set]; exact hl) ok2 fr2 fun ho2 k t b ht hk q1 q2 => ?_)⟩
  by_cases hik : i = k
  · subst hik
    refine .inr fun hv => ?_
    rw [List.getElem?_set_self hli] at q1
    rw [List.getElem?_set_self hlσ] at q2
    cases q1
    have q2' : v = .ref b := Option.some.inj (Option.some.inj q2)
    obtain ⟨a', u, e1, e2, _⟩ := SlOk.at ht ok1
    rw [q2'] at e1
    cases e1
    rw [fr2 ho2 b hv] at e2
    cases e2
  · rw [List.getElem?_set_ne hik] at q1 q2
    exact .inl ⟨q1, q2⟩
/-! ### x[k] = v, x a dict of one's own -/
def rPut (K : PySem.W.Frag) (x y v : V) (H : Hp) (q : Hp → Prop) : Prop := ∃ F a E ks ds k, x = .ref a ∧ H a = some (DctO a E) ∧ Same F H ∧ RdE K F E ks ds ∧ kOk k = true ∧ E.length < 900000 ∧ Rd K F k y ∧
  ∀ b, y = .ref b → q (upd H a (DctO a (stoE E k b v)))
def tPut (K : PySem.W.Frag) (td ty tv : TE) : TS := fun D σ H => tv σ H fun v H1 => td σ H1 fun x H2 => ty σ H2 fun y H3 => rPut K x y v H3 fun H4 => D.nx σ H4
theorem ps_put {o i value : Expr} {pos' : Pos} {td ty tv : TE} (hu : X.A.units + 64 < cLine) (ho : PE X o td) (hi : PE X i ty) (hv : PE X value tv) (hs : swapsWith value (some (.Subscript o i pos')) pos.line X.env = pure false := by rfl) :
    PS X (.Assign [.Subscript o i pos'] value pos) (tPut X.K td ty tv) := by
  refine ⟨fun pins s σ H D I h => ?_⟩
  refine wpAny_Assign_Subscript (thn (hv.run pins s σ H _ I h) fun r s1 ⟨v, H1, I1, rv, q1⟩ => thn (ho.run pins s1 σ H1 _ I1 q1) fun u s2 ⟨x, H2, I2, rx, q2⟩ => thn (hi.run pins s2 σ H2 _ I2 q2) fun iv s3 ⟨y, H3, I3, ry, F, a, E, ks, ds, k, ex, e1, sm, r1, zk, hz, rk, q3⟩ => ?_) hs
  subst ex
  obtain rfl : u = Value.ref a := rx
  exact d_put (by omega) I3 sm e1 r1 zk hz rk ry rv fun s4 b eb I4 => ⟨σ, _, I4, q3 b eb⟩
def ownDt (e : En) (i : Nat) : Option (List D × List D) := match e[i]? with
  | some (.owd ks vs) => some (ks, vs)
  | _ => none
theorem ownDt_eq {e : En} {i : Nat} {ks vs : List D} (h : ownDt e i = some (ks, vs)) : e[i]? = some (.owd ks vs) := by
  unfold ownDt at h
  split at h
  · rename_i k v q; cases h; exact q
  · cases h
def sPut (i : Nat) (B C : CE) : CS := fun e => match ownDt e i with
  | some (ks, vs) => rE (C e) e fun v => (match v.solid with
    | true => rE (B e) e fun k => (match kOk k with
      | true => (match Nat.blt ks.length 900000 with
        | true => (match stoK k v ks vs with | (ks', vs') => .nx (e.set i (.owd ks' vs')))
        | false => .bad)
      | false => .bad)
    | false => .bad)
  | none => .bad
theorem pps_put {i : Nat} {x : Str} {B C : CE} {p1 pos' : Pos} (hu : X.A.units + 64 < cLine) (hi : X.N[i]? = some x) (hb : PP X cl W b B) (hc : PP X cl W a C) (hv : Vis X.env.scope x := by first | exact Or.inl rfl | exact Or.inr (Or.inl rfl) | exact Or.inr (Or.inr rfl)) (hd : (x == ("__debug__" : Str)) = false := by decide) (hcd : (x == ("__classdict__" : Str)) = false := by decide)
    (hs : swapsWith a (some (.Subscript (.Name x p1) b pos')) pos.line X.env = pure false := by rfl) :
    PPS X cl W F0 H0 (.Assign [.Subscript (.Name x p1) b pos'] a pos) (sPut i B C) := PS.imp (ps_put hu (pe_var hi hv hd hcd) hb hc hs) fun Dn σ H ⟨F, e, s, h⟩ => by
  unfold sPut at h
  cases q : ownDt e i with
  | none => rw [q] at h; exact h.elim
  | some p =>
    obtain ⟨ks, ds⟩ := p
    rw [q] at h
    have q' := ownDt_eq q
    refine goSE s h fun v F1 H1 vv x1 s1 r1 h1 => ?_
    cases zs : v.solid with
    | false => simp only [zs] at h1; exact h1.elim
    | true =>
      simp only [zs] at h1
      obtain ⟨a1, E1, ha, _⟩ := s1.st.at_ i _ q'
      refine ⟨.ref a1, ha, goSE s1 h1 fun k F2 H2 kv x2 s2 r2 h2 => ?_⟩
      cases zk : kOk k with
      | false => simp only [zk] at h2; exact h2.elim
      | true =>
        simp only [zk] at h2
        cases zl : Nat.blt ks.length 900000 with
        | false => simp only [zl] at h2; exact h2.elim
        | true =>
          simp only [zl] at h2
          obtain ⟨a2, E, ha2, hH, nF, rE⟩ := s2.st.at_ i _ q'
          rw [ha] at ha2
          cases ha2
          have hz : E.length < 900000 := by
            have := Nat.le_of_ble_eq_true zl
            rw [rE.ks, List.length_map] at this
            exact this
          have rk := r2.rd (solid_of_kOk zk)
          refine ⟨F2, a1, E, ks, ds, k, rfl, hH, s2.st.sub, rE, zk, hz, rk, fun b eb => ?_⟩
          subst eb
          have rs := RdE.sto rk ((r1.rd zs).same x2) rE
          cases zp : stoK k v ks ds with
          | mk ks' ds' =>
            rw [zp] at h2 rs
            exact h2 _ _ _ (Same.refl _) (s2.chg q' rfl ha nF ⟨a1, _, rfl, upd_same, nF, rs⟩)
end
end M
namespace M
open PySem PySem.Spec PyProof.Rows L2

/-! ### zip of lists and tuples, as many as there are -/
structure ZA where
  t : Bool
  it : Addr
  l : Addr
  xs : Array Value
def ZA.its (c : ZA) (h : Heap) (k : Nat) : Prop := match c.t with
  | true => h.IsTupleIter c.it c.l k
  | false => h.IsListIter c.it c.l k
def ZA.seq (c : ZA) (h : Heap) : Prop := match c.t with
  | true => h.IsTuple c.l c.xs
  | false => h.IsList c.l c.xs
theorem ZA.its.at {c : ZA} {h h' : Heap} {k : Nat} (x : c.its h k) (e : ∀ o, h.get? c.it = some o → h'.get? c.it = some o) : c.its h' k := by
  obtain ⟨t, it, l, xs⟩ := c
  cases t with
  | true => exact Heap.IsTupleIter.at (show h.IsTupleIter it l k from x) e
  | false => exact Heap.IsListIter.at (show h.IsListIter it l k from x) e
theorem ZA.seq.at {c : ZA} {h h' : Heap} (x : c.seq h) (e : ∀ o, h.get? c.l = some o → h'.get? c.l = some o) : c.seq h' := by
  obtain ⟨t, it, l, xs⟩ := c
  cases t with
  | true => exact Heap.IsTuple.at (show h.IsTuple l xs from x) e
  | false => exact Heap.IsList.at (show h.IsList l xs from x) e
theorem ZA.its.obj {c : ZA} {h : Heap} {k : Nat} (x : c.its h k) : ∃ o, h.get? c.it = some o ∧ ∀ v, o.data ≠ .cell v := by
  obtain ⟨t, it, l, xs⟩ := c
  cases t <;> (obtain ⟨o, e, _, d⟩ := x; exact ⟨o, e, fun v q => by rw [d] at q; cases q⟩)
theorem ZA.seq.lt {c : ZA} {h : Heap} (x : c.seq h) : c.l < h.objs.size := by
  obtain ⟨t, it, l, xs⟩ := c
  cases t <;> (obtain ⟨o, e, _⟩ := x; exact Heap.lt_size e)
abbrev IsTupV (h : Heap) (T : Addr) (vs : List Value) : Prop := h.get? T = some { cls := .type "tuple", data := .seq vs.toArray }
structure ZApart (z TI TO : Addr) (cs : List ZA) : Prop where
  TIz : TI ≠ z
  TOz : TO ≠ z
  TITO : TI ≠ TO
  itz : ∀ c ∈ cs, c.it ≠ z
  itTI : ∀ c ∈ cs, c.it ≠ TI
  itTO : ∀ c ∈ cs, c.it ≠ TO
  lz : ∀ c ∈ cs, c.l ≠ z
  lTO : ∀ c ∈ cs, c.l ≠ TO
  lit : ∀ c ∈ cs, ∀ d ∈ cs, c.l ≠ d.it
  nd : (cs.map (·.it)).Nodup
theorem nodup_at {cs : List ZA} (h : (cs.map (·.it)).Nodup) {i j : Nat} {c d : ZA} (h1 : cs[i]? = some c) (h2 : cs[j]? = some d) (e : c.it = d.it) : i = j := by
  have hi := (List.getElem?_eq_some_iff.mp h1).1
  have hj := (List.getElem?_eq_some_iff.mp h2).1
  refine (List.getElem_inj (i := i) (j := j) (h₀ := by simpa using hi) (h₁ := by simpa using hj) h).mp ?_
  rw [List.getElem_map, List.getElem_map, (List.getElem?_eq_some_iff.mp h1).2, (List.getElem?_eq_some_iff.mp h2).2, e]
section
variable {prog : Program} {w : World} {A : Around} {E : Value → Shared → Prop} {s : Shared}
theorem nextOf_za {c : ZA} {k : Nat} {x : Value} {Q : Value → Shared → Prop} (hit : c.its s.heap k) (hl : c.seq s.heap) (hx : c.xs[k]? = some x)
    (hQ : ∀ h', c.its h' (k + 1) → Heap.SameBut c.it s.heap h' → Q x { s with heap := h' }) : wpAny (model prog w) A (Builtin.SmallTypes.nextOf (.ref c.it)) Q E s := by
  obtain ⟨t, it, l, xs⟩ := c
  cases t with
  | true => exact RZ.nextOf_tuple_item (show s.heap.IsTupleIter it l k from hit) (show s.heap.IsTuple l xs from hl) hx hQ
  | false => exact wpAny_nextOf_list_item (show s.heap.IsListIter it l k from hit) (show s.heap.IsList l xs from hl) hx hQ
theorem nextOf_zaEnd {c : ZA} {k : Nat} {Q : Value → Shared → Prop} (hh : A.handled = none) (hit : c.its s.heap k) (hl : c.seq s.heap) (hx : c.xs[k]? = none)
    (hE : ∀ h' e, Heap.ExtBut c.it s.heap h' → (∃ o, h'.get? e = some o ∧ o.cls = .type "StopIteration") → E (.ref e) { s with heap := h' }) : wpAny (model prog w) A (Builtin.SmallTypes.nextOf (.ref c.it)) Q E s := by
  obtain ⟨t, it, l, xs⟩ := c
  cases t with
  | true => exact RZ.nextOf_tuple_end hh (show s.heap.IsTupleIter it l k from hit) (show s.heap.IsTuple l xs from hl) hx hE
  | false => exact wpAny_nextOf_list_end hh (show s.heap.IsListIter it l k from hit) (show s.heap.IsList l xs from hl) hx hE
/-- what the search for the items has reached: the first j of them -/
structure ZMid (h0 : Heap) (z TI TO : Addr) (cs : List ZA) (ov : List Value) (k j : Nat) (got : List Value) (h : Heap) : Prop where
  len : got.length = j
  gotx : ∀ (i : Nat) (c : ZA), i < j → cs[i]? = some c → ∃ x, c.xs[k]? = some x ∧ got[i]? = some x
  zz : IsZip h z TI TO .ellipsis
  to : IsTupV h TO (got ++ ov.drop j)
  its : ∀ (i : Nat) (c : ZA), cs[i]? = some c → c.its h (if i < j then k + 1 else k)
  sq : ∀ c ∈ cs, c.seq h
  sz : h.objs.size = h0.objs.size
  fr : ∀ c o, c ≠ z → c ≠ TO → (∀ d ∈ cs, c ≠ d.it) → h0.get? c = some o → h.get? c = some o
theorem zipN_next {z TI TO : Addr} {cs : List ZA} {ov : List Value} {k : Nat} {Q : Fin → Shared → Prop} (hh : A.handled = none) (D : ZApart z TI TO cs) (hne : cs ≠ []) (hn : cs.length ≤ 100)
    (hz : IsZip s.heap z TI TO .none) (hTI : IsTupV s.heap TI (cs.map fun c => .ref c.it)) (hov : ov.length = cs.length) (hTO : IsTupV s.heap TO ov) (hit : ∀ c ∈ cs, c.its s.heap k) (hsq : ∀ c ∈ cs, c.seq s.heap)
    (hQ : ∀ got h', got.length = cs.length → (∀ (i : Nat) (c : ZA), cs[i]? = some c → ∃ x, c.xs[k]? = some x ∧ got[i]? = some x) → IsZip h' z TI TO (rawInt s.heap.objs.size) → IsTupV h' TO got → (∀ c ∈ cs, c.its h' (k + 1)) → IsTupV h' s.heap.objs.size got →
      h'.objs.size = s.heap.objs.size + 1 → (∀ c o, c ≠ z → c ≠ TO → (∀ d ∈ cs, c ≠ d.it) → s.heap.get? c = some o → h'.get? c = some o) → Q (.done (.ret (.ref s.heap.objs.size))) { s with heap := h' })
    (hE : (∃ c ∈ cs, c.xs[k]? = none) → ∀ h' e, (∀ c o, c ≠ z → c ≠ TO → (∀ d ∈ cs, c ≠ d.it) → s.heap.get? c = some o → h'.get? c = some o) → (∃ o, h'.get? e = some o ∧ o.cls = .type "StopIteration") → E (.ref e) { s with heap := h' }) :
    wpAny (model prog w) A (Builtin.«zip.__next__» ⟨[.ref z], []⟩) Q E s := by
  show wpAny _ _ (field (.ref z) 2 >>= _) _ _ _
  refine wpAny_bind (wpAny_field hz rfl (x := .bool false) rfl ?_)
  show wpAny _ _ (field (.ref z) 3 >>= _) _ _ _
  refine wpAny_bind (wpAny_field hz rfl (x := .ref TI) rfl ?_)
  refine wpAny_bind (wpAny_seqItems hTI rfl ?_)
  dsimp only
  have hem : (List.map (fun c : ZA => Value.ref c.it) cs).toArray.isEmpty = false := by
    cases cs with
    | nil => exact absurd rfl hne
    | cons c cs => rfl
  rw [hem]
  simp only [Bool.false_eq_true, if_false]
  try refine wpAny_bind (wpAny_pure ?_)
  show wpAny _ _ (Builtin.SmallTypes.ownedTupleIsFree (.ref z) >>= _) _ _ _
  refine wpAny_bind ?_
  unfold Builtin.SmallTypes.ownedTupleIsFree
  refine wpAny_bind (wpAny_field hz rfl (x := .none) rfl (wpAny_pure ?_))
  simp only [if_true]
  refine wpAny_bind (wpAny_rule ?_)
  refine wpAny_bind (wpAny_field hz rfl (x := .ref TO) rfl ?_)
  refine wpAny_bind (wpAny_setField_rec hz (by simp) fun h₁ hz₁ hs₁ => ?_)
  replace hz₁ : IsZip h₁ z TI TO .ellipsis := hz₁
  refine wpAny_bind ?_
  have m0 : ZMid s.heap z TI TO cs ov k 0 [] h₁ := {
    len := rfl
    gotx := fun i c hi => absurd hi (Nat.not_lt_zero _)
    zz := hz₁
    to := hs₁.extBut _ _ D.TOz hTO
    its := fun i c hc => (hit c (List.mem_of_getElem? hc)).at fun o e => hs₁.extBut _ _ (D.itz c (List.mem_of_getElem? hc)) e
    sq := fun c hc => (hsq c hc).at fun o e => hs₁.extBut _ _ (D.lz c hc) e
    sz := hs₁.1
    fr := fun c o c1 _ _ e => hs₁.extBut _ _ c1 e }
  refine wpAny_forIn_list _ (fun rest r s' => ∃ j got h', s' = { s with heap := h' } ∧ r.1 = none ∧ j ≤ cs.length ∧ rest = ((cs.drop j).map fun c => Value.ref c.it).zipIdx j ∧ ZMid s.heap z TI TO cs ov k j got h') _ ?_ ?_ _ _ ⟨0, [], h₁, rfl, rfl, Nat.zero_le _, by simp, m0⟩
  · rintro x rest r s' ⟨j, got, h', rfl, hr, hj, hrest, m⟩
    have hjl : j < cs.length := by
      rcases Nat.lt_or_eq_of_le hj with z | z
      · exact z
      · rw [z, List.drop_length] at hrest; cases hrest
    obtain ⟨c, hc⟩ : ∃ c, cs[j]? = some c := ⟨_, List.getElem?_eq_getElem hjl⟩
    have hcm := List.mem_of_getElem? hc
    have hdrop : cs.drop j = c :: cs.drop (j + 1) := by
      rw [List.drop_eq_getElem_cons hjl]
      congr 1
      rw [List.getElem?_eq_getElem hjl] at hc
      exact Option.some.inj hc
    rw [hdrop, List.map_cons, List.zipIdx_cons] at hrest
    injection hrest with hx hrest
    subst hx hrest
    have hci : c.its h' k := by have := m.its j c hc; rwa [if_neg (Nat.lt_irrefl _)] at this
    have hcs := m.sq c hcm
    dsimp only
    refine wpAny_bind (wpAny_onRaise ?_)
    show wpAny _ _ (Builtin.SmallTypes.nextOf (.ref c.it) >>= _) _ _ _
    cases hxk : c.xs[k]? with
    | none =>
      refine wpAny_bind (nextOf_zaEnd (s := { s with heap := h' }) hh hci hcs hxk fun h₂ e hs₂ he => ?_)
      obtain ⟨oe, hoe, hce⟩ := he
      have hz₂ : IsZip h₂ z TI TO .ellipsis := hs₂ _ _ (D.itz c hcm).symm m.zz
      have hez : e ≠ z := fun x => by subst x; rw [hz₂] at hoe; cases hoe; simp at hce
      refine wpAny_setField_rec hz₂ (by simp) fun h₃ _ hs₃ => hE ⟨c, hcm, hxk⟩ h₃ e (fun b o c1 c2 c3 x => hs₃.extBut _ _ c1 (hs₂ _ _ (c3 c hcm) (m.fr b o c1 c2 c3 x))) ⟨oe, hs₃.extBut _ _ hez hoe, hce⟩
    | some x =>
      refine wpAny_bind (nextOf_za (s := { s with heap := h' }) hci hcs hxk fun h₂ h1₂ hs₂ => wpAny_pure ?_)
      replace hs₂ : Heap.SameBut c.it h' h₂ := hs₂
      have hTO₂ : IsTupV h₂ TO (got ++ ov.drop j) := hs₂.extBut _ _ (D.itTO c hcm).symm m.to
      refine wpAny_bind (wpAny_seqItems hTO₂ rfl ?_)
      have hlen : (got ++ ov.drop j).length = cs.length := by rw [List.length_append, List.length_drop, m.len, hov]; omega
      refine wpAny_bind (wpAny_updateSeq (hz := by rw [List.size_toArray, hlen, sizeLine_eq]; omega) (_hz' := by rw [Array.size_setIfInBounds, List.size_toArray, hlen, sizeLine_eq]; omega) hTO₂ rfl ?_)
      refine wpAny_bind (wpAny_letGo (wpAny_pure ?_))
      have hs₃ := Heap.SameBut.update h₂ TO (Obj.mapSeq (·.setIfInBounds j x))
      have hTO₃ : IsTupV (h₂.update TO (Obj.mapSeq (·.setIfInBounds j x))) TO ((got ++ [x]) ++ ov.drop (j + 1)) := by
        show Heap.get? _ _ = _
        rw [Heap.get?_update_self _ hTO₂ rfl]
        have : (got ++ ov.drop j).set j x = (got ++ [x]) ++ ov.drop (j + 1) := by
          have hd : ov.drop j = ov[j]'(by omega) :: ov.drop (j + 1) := List.drop_eq_getElem_cons (by omega)
          rw [hd, List.set_append_right _ _ (Nat.le_of_eq m.len), show j - got.length = 0 by rw [m.len]; omega, List.set_cons_zero, List.append_assoc]
          rfl
        simp [Obj.mapSeq, ← this]
      refine ⟨j + 1, got ++ [x], _, rfl, rfl, hjl, rfl, ?_⟩
      exact {
        len := by rw [List.length_append, m.len]; rfl
        gotx := fun i d hi hd => by
          rcases Nat.lt_or_eq_of_le (Nat.le_of_lt_succ hi) with q | q
          · obtain ⟨y, y1, y2⟩ := m.gotx i d q hd
            exact ⟨y, y1, by rw [List.getElem?_append_left (by rw [m.len]; exact q)]; exact y2⟩
          · subst q
            rw [hc] at hd; cases hd
            exact ⟨x, hxk, by rw [List.getElem?_append_right (by rw [m.len]; exact Nat.le_refl _), m.len, Nat.sub_self]; rfl⟩
        zz := hs₃.extBut _ _ D.TOz.symm (hs₂.extBut _ _ (D.itz c hcm).symm m.zz)
        to := hTO₃
        its := fun i d hd => by
          have hdm := List.mem_of_getElem? hd
          by_cases q : i = j
          · subst q
            rw [hc] at hd; cases hd
            rw [if_pos (Nat.lt_succ_self _)]
            exact h1₂.at fun o e => hs₃.extBut _ _ (D.itTO c hcm) e
          · have z1 : (if i < j + 1 then k + 1 else k) = if i < j then k + 1 else k := by
              by_cases q2 : i < j
              · rw [if_pos q2, if_pos (by omega)]
              · rw [if_neg q2, if_neg (by omega)]
            rw [z1]
            exact (m.its i d hd).at fun o e => hs₃.extBut _ _ (D.itTO d hdm) (hs₂.extBut _ _ (fun z => q (nodup_at D.nd hd hc z)) e)
        sq := fun d hd => (m.sq d hd).at fun o e => hs₃.extBut _ _ (D.lTO d hd) (hs₂.extBut _ _ (D.lit d hd c hcm) e)
        sz := by rw [hs₃.1, hs₂.1, m.sz]
        fr := fun b o c1 c2 c3 e => hs₃.extBut _ _ c2 (hs₂.extBut _ _ (c3 c hcm) (m.fr b o c1 c2 c3 e)) }
  · rintro ⟨r1, r2⟩ s' ⟨j, got, h₅, rfl, hr, hj, hrest, m⟩
    have hje : j = cs.length := by
      rcases Nat.lt_or_eq_of_le hj with z | z
      · rw [List.drop_eq_getElem_cons z, List.map_cons, List.zipIdx_cons] at hrest; cases hrest
      · exact z
    subst hje
    simp only at hr
    subst hr
    dsimp only
    have hTO₅ : IsTupV h₅ TO got := by have := m.to; rwa [← hov, List.drop_length, List.append_nil] at this
    refine wpAny_bind (wpAny_seqItems hTO₅ rfl ?_)
    refine wpAny_bind (wpAny_newTuple ?_ (by show got.length ≤ sizeLine; rw [m.len, sizeLine_eq]; omega))
    have hsz := m.sz
    have hz₅ := m.zz
    have hzlt : z < h₅.objs.size := Heap.lt_size hz₅
    show wpAny _ _ (Builtin.SmallTypes.ownedTupleHandOut (.ref z) (.ref h₅.objs.size) >>= _) _ _ _
    refine wpAny_bind ?_
    unfold Builtin.SmallTypes.ownedTupleHandOut
    have hz₆ : IsZip (h₅.push { cls := .type "tuple", data := .seq got.toArray }) z TI TO .ellipsis := Heap.get?_push_of_some _ hz₅
    refine wpAny_bind (wpAny_setField_rec hz₆ (by simp) fun h₇ hz₇ hs₇ => ?_)
    replace hz₇ : IsZip h₇ z TI TO (rawInt h₅.objs.size) := hz₇
    refine wpAny_setField_rec hz₇ (by simp) fun h₈ hz₈ hs₈ => ?_
    replace hz₈ : IsZip h₈ z TI TO (rawInt h₅.objs.size) := hz₈
    have up : ∀ c o, c ≠ z → h₅.get? c = some o → h₈.get? c = some o := fun c o c1 e => hs₈.extBut _ _ c1 (hs₇.extBut _ _ c1 (Heap.get?_push_of_some _ e))
    have hT₈ : IsTupV h₈ h₅.objs.size got := hs₈.extBut _ _ (Nat.ne_of_gt hzlt) (hs₇.extBut _ _ (Nat.ne_of_gt hzlt) (Heap.get?_push_size _ rfl))
    have hz8 : h₈.objs.size = h₅.objs.size + 1 := by rw [hs₈.1, hs₇.1, Heap.size_push]
    rw [hsz] at hz₈ hT₈ hz8
    refine wpAny_pure ?_
    rw [hsz]
    refine hQ got h₈ m.len (fun i c hc => m.gotx i c (List.getElem?_eq_some_iff.mp hc).1 hc) hz₈ (up _ _ D.TOz hTO₅) (fun c hc => ?_) hT₈ hz8 fun c o c1 c2 c3 e => up c o c1 (m.fr c o c1 c2 c3 e)
    obtain ⟨i, hi⟩ := List.getElem?_of_mem hc
    have := m.its i c hi
    rw [if_pos (List.getElem?_eq_some_iff.mp hi).1] at this
    exact this.at fun o e => up _ o (D.itz c hc) e
end
end M
set_option maxHeartbeats 1000000
namespace M
open PySem PySem.Spec PyProof.Rows L2

/-! ### zip(..) made: two, three -/
def itO (c : ZA) : Obj := { cls := .type (match c.t with | true => "tuple_iterator" | false => "list_iterator"), data := .fields #[.ref c.l, .int 0 0] }
theorem itO_its {c : ZA} {h : Heap} (e : h.get? c.it = some (itO c)) : c.its h 0 := by
  obtain ⟨t, it, l, xs⟩ := c
  cases t with
  | true => exact ⟨_, e, rfl, rfl⟩
  | false => exact ⟨_, e, rfl, rfl⟩
theorem pyIter_za {prog : Program} {w : World} {A : Around} {E : Value → Shared → Prop} {s : Shared} {c : ZA} {Q : Value → Shared → Prop} (h : c.seq s.heap) (hQ : Q (.ref s.heap.objs.size) { s with heap := s.heap.push (itO c) }) : wpAny (model prog w) A (pyIter (.ref c.l)) Q E s := by
  obtain ⟨t, it, l, xs⟩ := c
  cases t with
  | true => exact wpAny_pyIter_tuple (show s.heap.IsTuple l xs from h) hQ
  | false => exact wpAny_pyIter_list (show s.heap.IsList l xs from h) hQ
theorem ZA.seq.push {c : ZA} {h : Heap} (x : c.seq h) (o : Obj) : c.seq (h.push o) := x.at fun _ e => Heap.get?_push_of_some _ e
abbrev zH1 (h : Heap) (c1 : ZA) : Heap := h.push (itO c1)
abbrev zH2 (h : Heap) (c1 c2 : ZA) : Heap := (zH1 h c1).push (itO c2)
abbrev zH3 (h : Heap) (c1 c2 : ZA) : Heap := (zH2 h c1 c2).push { cls := .type "tuple", data := .seq #[.ref h.objs.size, .ref (zH1 h c1).objs.size] }
abbrev zH4 (h : Heap) (c1 c2 : ZA) : Heap := (zH3 h c1 c2).push { cls := .type "tuple", data := .seq #[.none, .none] }
abbrev zH5 (h : Heap) (c1 c2 : ZA) : Heap := (zH4 h c1 c2).push { cls := .type "zip", data := .fields #[.none, .bool false, .bool false, .ref (zH2 h c1 c2).objs.size, .ref (zH3 h c1 c2).objs.size] }
theorem meets_zip2 (c1 c2 : ZA) : Meets (Builtin.«zip.__new__» ⟨[.type "zip", .ref c1.l, .ref c2.l], []⟩) (fun _ R s => c1.seq s.heap ∧ c2.seq s.heap ∧ R (.ok (.ret (.ref (zH4 s.heap c1 c2).objs.size))) { s with heap := zH5 s.heap c1 c2 }) :=
  .of_wp fun prog w A R s h => by
    obtain ⟨hp, g, d, tk, os⟩ := s; obtain ⟨hl1, hl2, h⟩ := h
    have hsub := sub_zip
    have hL1 : c1.seq (Shared.heap ⟨hp, g, d, tk, os⟩) := hl1
    have hL2 : c2.seq (Shared.heap ⟨hp.push (itO c1), g, d, tk, os⟩) := hl2.push _
    wp_walk using pyIter_za hL1, pyIter_za hL2
    exact ⟨_, rfl, h⟩
abbrev yH3 (h : Heap) (c1 c2 c3 : ZA) : Heap := (zH2 h c1 c2).push (itO c3)
abbrev yH4 (h : Heap) (c1 c2 c3 : ZA) : Heap := (yH3 h c1 c2 c3).push { cls := .type "tuple", data := .seq #[.ref h.objs.size, .ref (zH1 h c1).objs.size, .ref (zH2 h c1 c2).objs.size] }
abbrev yH5 (h : Heap) (c1 c2 c3 : ZA) : Heap := (yH4 h c1 c2 c3).push { cls := .type "tuple", data := .seq #[.none, .none, .none] }
abbrev yH6 (h : Heap) (c1 c2 c3 : ZA) : Heap := (yH5 h c1 c2 c3).push { cls := .type "zip", data := .fields #[.none, .bool false, .bool false, .ref (yH3 h c1 c2 c3).objs.size, .ref (yH4 h c1 c2 c3).objs.size] }
theorem meets_zip3 (c1 c2 c3 : ZA) : Meets (Builtin.«zip.__new__» ⟨[.type "zip", .ref c1.l, .ref c2.l, .ref c3.l], []⟩) (fun _ R s => c1.seq s.heap ∧ c2.seq s.heap ∧ c3.seq s.heap ∧ R (.ok (.ret (.ref (yH5 s.heap c1 c2 c3).objs.size))) { s with heap := yH6 s.heap c1 c2 c3 }) :=
  .of_wp fun prog w A R s h => by
    obtain ⟨hp, g, d, tk, os⟩ := s; obtain ⟨hl1, hl2, hl3, h⟩ := h
    have hsub := sub_zip
    have hL1 : c1.seq (Shared.heap ⟨hp, g, d, tk, os⟩) := hl1
    have hL2 : c2.seq (Shared.heap ⟨hp.push (itO c1), g, d, tk, os⟩) := hl2.push _
    have hL3 : c3.seq (Shared.heap ⟨(hp.push (itO c1)).push (itO c2), g, d, tk, os⟩) := (hl3.push _).push _
    wp_walk using pyIter_za hL1, pyIter_za hL2, pyIter_za hL3
    exact ⟨_, rfl, h⟩
/-- a zip stands there, new -/
structure ZNew (h : Heap) (z TI TO : Addr) (cs : List ZA) : Prop where
  ap : ZApart z TI TO cs
  zz : IsZip h z TI TO .none
  ti : IsTupV h TI (cs.map fun c => .ref c.it)
  to : ∃ ov, ov.length = cs.length ∧ IsTupV h TO ov
  its : ∀ c ∈ cs, c.its h 0
section
variable {prog : Program} {w : World} {A : Around} {E : Value → Shared → Prop} {s : Shared}
def putIt (c : ZA) (a : Addr) : ZA := { c with it := a }
theorem neA {a b : Nat} (h : a ≠ b) : (show Addr from a) ≠ (show Addr from b) := h
theorem ap2 (n a b : Nat) (t1 t2 : Bool) (x1 x2 : Array Value) (h1 : a < n) (h2 : b < n) : ZApart (n + 4) (n + 2) (n + 3) [⟨t1, n, a, x1⟩, ⟨t2, n + 1, b, x2⟩] := by
  constructor <;> (try simp only [List.mem_cons, List.not_mem_nil, or_false, forall_eq_or_imp, forall_eq, List.map_cons, List.map_nil, List.nodup_cons, List.mem_singleton, List.nodup_nil, and_true, not_false_eq_true, not_or]) <;> (repeat' (apply And.intro)) <;> (refine neA ?_) <;> omega
theorem ap3 (n a b c : Nat) (t1 t2 t3 : Bool) (x1 x2 x3 : Array Value) (h1 : a < n) (h2 : b < n) (h3 : c < n) : ZApart (n + 5) (n + 3) (n + 4) [⟨t1, n, a, x1⟩, ⟨t2, n + 1, b, x2⟩, ⟨t3, n + 2, c, x3⟩] := by
  constructor <;> (try simp only [List.mem_cons, List.not_mem_nil, or_false, forall_eq_or_imp, forall_eq, List.map_cons, List.map_nil, List.nodup_cons, List.mem_singleton, List.nodup_nil, and_true, not_false_eq_true, not_or]) <;> (repeat' (apply And.intro)) <;> (refine neA ?_) <;> omega
theorem call_zip2 {c1 c2 : ZA} {Q : Value → Shared → Prop} (h1 : c1.seq s.heap) (h2 : c2.seq s.heap)
    (h : ∀ h' z TI TO cs, cs = [putIt c1 s.heap.objs.size, putIt c2 (s.heap.objs.size + 1)] → ZNew h' z TI TO cs → (∀ a ∈ [z, TI, TO] ++ cs.map (·.it), s.heap.objs.size ≤ a) → (∀ c o, s.heap.get? c = some o → h'.get? c = some o) → Q (.ref z) { s with heap := h' }) :
    wpAny (model prog w) A (call (.type "zip") [.ref c1.l, .ref c2.l]) Q E s := by
  refine callType_new F.called_zip (by decide) (F.typeCall_zip_2 _ _) (F.newCall_zip_2 _ _) (fun obj => F.args_object_init_3 obj _ _) F.entry_zip_new
    (meets_zip2 c1 c2) ⟨h1, h2, ?_⟩
  have z1 : (zH1 s.heap c1).objs.size = s.heap.objs.size + 1 := Heap.size_push ..
  have z2 : (zH2 s.heap c1 c2).objs.size = s.heap.objs.size + 2 := by rw [Heap.size_push, z1]
  have z3 : (zH3 s.heap c1 c2).objs.size = s.heap.objs.size + 3 := by rw [Heap.size_push, z2]
  have z4 : (zH4 s.heap c1 c2).objs.size = s.heap.objs.size + 4 := by rw [Heap.size_push, z3]
  have g5 : (zH5 s.heap c1 c2).get? (zH4 s.heap c1 c2).objs.size = some _ := Heap.get?_push_size _ rfl
  have g4 : (zH5 s.heap c1 c2).get? (zH3 s.heap c1 c2).objs.size = some _ := Heap.get?_push_of_some _ (Heap.get?_push_size _ rfl)
  have g3 : (zH5 s.heap c1 c2).get? (zH2 s.heap c1 c2).objs.size = some _ := Heap.get?_push_of_some _ (Heap.get?_push_of_some _ (Heap.get?_push_size _ rfl))
  have g2 : (zH5 s.heap c1 c2).get? (zH1 s.heap c1).objs.size = some (itO c2) := Heap.get?_push_of_some _ (Heap.get?_push_of_some _ (Heap.get?_push_of_some _ (Heap.get?_push_size _ (by rfl))))
  have g1 : (zH5 s.heap c1 c2).get? s.heap.objs.size = some (itO c1) := Heap.get?_push_of_some _ (Heap.get?_push_of_some _ (Heap.get?_push_of_some _ (Heap.get?_push_of_some _ (Heap.get?_push_size _ (by rfl)))))
  show _ ∧ _
  rw [z2, z3, z4] at g5
  rw [z1, z2] at g3
  rw [z3] at g4
  rw [z1] at g2
  rw [z4]
  have l1 := h1.lt
  have l2 := h2.lt
  refine ⟨⟨_, g5, rfl⟩, h _ (s.heap.objs.size + 4) (s.heap.objs.size + 2) (s.heap.objs.size + 3) _ rfl ⟨ap2 _ _ _ c1.t c2.t c1.xs c2.xs l1 l2, g5, g3, ⟨[.none, .none], rfl, g4⟩, fun c hc => ?_⟩ (fun a ha => ?_) fun c o x =>
    Heap.get?_push_of_some _ (Heap.get?_push_of_some _ (Heap.get?_push_of_some _ (Heap.get?_push_of_some _ (Heap.get?_push_of_some _ x))))⟩
  · simp only [List.mem_cons, List.not_mem_nil, or_false] at hc
    rcases hc with rfl | rfl
    · exact itO_its (c := putIt c1 s.heap.objs.size) g1
    · exact itO_its (c := putIt c2 (s.heap.objs.size + 1)) g2
  · simp only [putIt, List.map_cons, List.map_nil, List.mem_append, List.mem_cons, List.not_mem_nil, or_false] at ha
    rcases ha with (rfl | rfl | rfl) | (rfl | rfl)
    all_goals first | exact Nat.le_refl _ | exact Nat.le_add_right _ _
theorem call_zip3 {c1 c2 c3 : ZA} {Q : Value → Shared → Prop} (h1 : c1.seq s.heap) (h2 : c2.seq s.heap) (h3 : c3.seq s.heap)
    (h : ∀ h' z TI TO cs, cs = [putIt c1 s.heap.objs.size, putIt c2 (s.heap.objs.size + 1), putIt c3 (s.heap.objs.size + 2)] → ZNew h' z TI TO cs → (∀ a ∈ [z, TI, TO] ++ cs.map (·.it), s.heap.objs.size ≤ a) → (∀ c o, s.heap.get? c = some o → h'.get? c = some o) → Q (.ref z) { s with heap := h' }) :
    wpAny (model prog w) A (call (.type "zip") [.ref c1.l, .ref c2.l, .ref c3.l]) Q E s := by
  refine callType_new F.called_zip (by decide) (F.typeCall_zip_3 _ _ _) (F.newCall_zip_3 _ _ _) (fun obj => F.args_object_init_4 obj _ _ _) F.entry_zip_new
    (meets_zip3 c1 c2 c3) ⟨h1, h2, h3, ?_⟩
  have z1 : (zH1 s.heap c1).objs.size = s.heap.objs.size + 1 := Heap.size_push ..
  have z2 : (zH2 s.heap c1 c2).objs.size = s.heap.objs.size + 2 := by rw [Heap.size_push, z1]
  have z3 : (yH3 s.heap c1 c2 c3).objs.size = s.heap.objs.size + 3 := by rw [Heap.size_push, z2]
  have z4 : (yH4 s.heap c1 c2 c3).objs.size = s.heap.objs.size + 4 := by rw [Heap.size_push, z3]
  have z5 : (yH5 s.heap c1 c2 c3).objs.size = s.heap.objs.size + 5 := by rw [Heap.size_push, z4]
  have up : ∀ {c o}, (yH3 s.heap c1 c2 c3).get? c = some o → (yH6 s.heap c1 c2 c3).get? c = some o := fun e => Heap.get?_push_of_some _ (Heap.get?_push_of_some _ (Heap.get?_push_of_some _ e))
  have g6 : (yH6 s.heap c1 c2 c3).get? (yH5 s.heap c1 c2 c3).objs.size = some _ := Heap.get?_push_size _ rfl
  have g5 : (yH6 s.heap c1 c2 c3).get? (yH4 s.heap c1 c2 c3).objs.size = some _ := Heap.get?_push_of_some _ (Heap.get?_push_size _ rfl)
  have g4 : (yH6 s.heap c1 c2 c3).get? (yH3 s.heap c1 c2 c3).objs.size = some _ := Heap.get?_push_of_some _ (Heap.get?_push_of_some _ (Heap.get?_push_size _ rfl))
  have g3 : (yH6 s.heap c1 c2 c3).get? (zH2 s.heap c1 c2).objs.size = some (itO c3) := up (Heap.get?_push_size _ (by rfl))
  have g2 : (yH6 s.heap c1 c2 c3).get? (zH1 s.heap c1).objs.size = some (itO c2) := up (Heap.get?_push_of_some _ (Heap.get?_push_size _ (by rfl)))
  have g1 : (yH6 s.heap c1 c2 c3).get? s.heap.objs.size = some (itO c1) := up (Heap.get?_push_of_some _ (Heap.get?_push_of_some _ (Heap.get?_push_size _ (by rfl))))
  show _ ∧ _
  rw [z3, z4, z5] at g6
  rw [z4] at g5
  rw [z3, z1, z2] at g4
  rw [z2] at g3
  rw [z1] at g2
  rw [z5]
  have l1 := h1.lt
  have l2 := h2.lt
  have l3 := h3.lt
  refine ⟨⟨_, g6, rfl⟩, h _ (s.heap.objs.size + 5) (s.heap.objs.size + 3) (s.heap.objs.size + 4) _ rfl ⟨ap3 _ _ _ _ c1.t c2.t c3.t c1.xs c2.xs c3.xs l1 l2 l3, g6, g4, ⟨[.none, .none, .none], rfl, g5⟩, fun c hc => ?_⟩ (fun a ha => ?_) fun c o x =>
    up (Heap.get?_push_of_some _ (Heap.get?_push_of_some _ (Heap.get?_push_of_some _ x)))⟩
  · simp only [List.mem_cons, List.not_mem_nil, or_false] at hc
    rcases hc with rfl | rfl | rfl
    · exact itO_its (c := putIt c1 s.heap.objs.size) g1
    · exact itO_its (c := putIt c2 (s.heap.objs.size + 1)) g2
    · exact itO_its (c := putIt c3 (s.heap.objs.size + 2)) g3
  · simp only [putIt, List.map_cons, List.map_nil, List.mem_append, List.mem_cons, List.not_mem_nil, or_false] at ha
    rcases ha with (rfl | rfl | rfl) | (rfl | rfl | rfl)
    all_goals first | exact Nat.le_refl _ | exact Nat.le_add_right _ _
end
end M
namespace M
open PySem PySem.Spec PyProof.Rows L2

/-! ### zip(..) walked -/
section
variable {prog : Program} {w : World} {A : Around} {E : Value → Shared → Prop} {s : Shared}
theorem pyNext_zipN {z TI TO : Addr} {cs : List ZA} {ov : List Value} {k : Nat} {Q : Option Value → Shared → Prop} (hh : A.handled = none) (D : ZApart z TI TO cs) (hne : cs ≠ []) (hn : cs.length ≤ 100)
    (hz : IsZip s.heap z TI TO .none) (hTI : IsTupV s.heap TI (cs.map fun c => .ref c.it)) (hov : ov.length = cs.length) (hTO : IsTupV s.heap TO ov) (hit : ∀ c ∈ cs, c.its s.heap k) (hsq : ∀ c ∈ cs, c.seq s.heap)
    (hQ : ∀ got h', got.length = cs.length → (∀ (i : Nat) (c : ZA), cs[i]? = some c → ∃ x, c.xs[k]? = some x ∧ got[i]? = some x) → IsZip h' z TI TO (rawInt s.heap.objs.size) → IsTupV h' TO got → (∀ c ∈ cs, c.its h' (k + 1)) → IsTupV h' s.heap.objs.size got →
      h'.objs.size = s.heap.objs.size + 1 → (∀ c o, c ≠ z → c ≠ TO → (∀ d ∈ cs, c ≠ d.it) → s.heap.get? c = some o → h'.get? c = some o) → Q (some (.ref s.heap.objs.size)) { s with heap := h' })
    (hE : (∃ c ∈ cs, c.xs[k]? = none) → ∀ h', (∀ c o, c ≠ z → c ≠ TO → (∀ d ∈ cs, c ≠ d.it) → s.heap.get? c = some o → h'.get? c = some o) → Q none { s with heap := h' }) :
    wpAny (model prog w) A (pyNext (.ref z)) Q E s := by
  have hT : s.TypeIs (.ref z) "zip" := ⟨_, hz, rfl⟩
  unfold pyNext
  refine wpAny_bind (wpAny_attempt (wpAny_callSpecial?_slot (name := Str.ofString "__next__") hT F.slot_zip_next
    (wpAny_call_entry F.slot_zip_next hT F.entry_zip_next (zipN_next hh D hne hn hz hTI hov hTO hit hsq (fun got h' a1 a2 a3 a4 a5 a6 a7 a8 => ⟨_, rfl, wpAny_pure (hQ got h' a1 a2 a3 a4 a5 a6 a7 a8)⟩) fun c h' e hk he => ?_) (F.args_zip_next_1 _))))
  obtain ⟨o, ho, hc⟩ := he
  refine wpAny_bind (wpAny_isInstance (T := "StopIteration") (b := true) ⟨o, ho, hc⟩ isSubtype_stop ?_)
  exact wpAny_pure (hE c h' hk)
end
def SqB (K : PySem.W.Frag) (H : Hp) (c : ZA) (vs : List V) : Prop := match c.t with
  | true => SqT K H c.l vs
  | false => SqL K H c.l vs
def ItzN (K : PySem.W.Frag) (cs : List ZA) : It :=
  ⟨fun i H => ∃ vss, Paired (SqB K H) cs vss ∧ ∀ vs ∈ vss, i < vs.length,
    fun i H v H' => ∃ T ys, v = .ref T ∧ H T = none ∧ H' = upd H T (.tup ys) ∧ ys.length = cs.length ∧ ∀ vss, Paired (SqB K H) cs vss → ∀ (j : Nat) (vs : List V), vss[j]? = some vs → ∃ y, vs[i]? = some y ∧ ys[j]? = some y,
    fun i H => ∃ vss, Paired (SqB K H) cs vss ∧ ∃ vs ∈ vss, vs.length ≤ i⟩
def ZA.core (c : ZA) : Bool × Addr × Addr := (c.t, c.it, c.l)
section
variable {X : Cx} {pins : List (Addr × Obj)} {σ : L2.St} {H : Hp} {s : Shared}
theorem sqs_za (I : Inv X pins σ H s) : ∀ {cs : List ZA} {vss : List (List V)}, Paired (SqB X.K H) cs vss → ∃ cs', cs'.map ZA.core = cs.map ZA.core ∧ Paired (fun (c : ZA) vs => Vals vs c.xs.toList ∧ c.seq s.heap) cs' vss
  | _, _, .nil => ⟨[], rfl, .nil⟩
  | c :: cs, vs :: vss, .cons r t => by
    obtain ⟨cs', h1, h2⟩ := sqs_za I t
    obtain ⟨b, it, l, xs⟩ := c
    cases b with
    | true =>
      obtain ⟨its, rv, p, _⟩ := I.tuple (show SqT X.K H l vs from r)
      exact ⟨⟨true, it, l, its.toArray⟩ :: cs', by rw [List.map_cons, List.map_cons, h1]; rfl, .cons ⟨by simpa using rv, (show s.heap.IsTuple l its.toArray from p)⟩ h2⟩
    | false =>
      obtain ⟨its, rv, p, _⟩ := I.list (show SqL X.K H l vs from r)
      exact ⟨⟨false, it, l, its.toArray⟩ :: cs', by rw [List.map_cons, List.map_cons, h1]; rfl, .cons ⟨by simpa using rv, p.isList⟩ h2⟩
theorem sqs_inj (I : Inv X pins σ H s) : ∀ {cs : List ZA} {vss vss' : List (List V)}, Paired (SqB X.K H) cs vss → Paired (SqB X.K H) cs vss' → vss = vss'
  | _, _, _, .nil, .nil => rfl
  | c :: cs, vs :: vss, vs' :: vss', .cons r t, .cons r' t' => by
    rw [sqs_inj I t t']
    congr 1
    obtain ⟨b, it, l, xs⟩ := c
    cases b with
    | true => exact I.tuple_inj (show SqT X.K H l vs from r) (show SqT X.K H l vs' from r')
    | false => exact I.list_inj (show SqL X.K H l vs from r) (show SqL X.K H l vs' from r')
end
theorem core_mem {cs cs' : List ZA} (h : cs'.map ZA.core = cs.map ZA.core) {c' : ZA} (hc : c' ∈ cs') : ∃ c ∈ cs, c.core = c'.core := by
  have : c'.core ∈ cs.map ZA.core := by rw [← h]; exact List.mem_map.mpr ⟨c', hc, rfl⟩
  exact List.mem_map.mp this
theorem core_ap {z TI TO : Addr} {cs cs' : List ZA} (h : cs'.map ZA.core = cs.map ZA.core) (D : ZApart z TI TO cs) : ZApart z TI TO cs' where
  TIz := D.TIz
  TOz := D.TOz
  TITO := D.TITO
  itz := fun c hc => by obtain ⟨d, hd, e⟩ := core_mem h hc; rw [show c.it = d.it from (congrArg (·.2.1) e).symm]; exact D.itz d hd
  itTI := fun c hc => by obtain ⟨d, hd, e⟩ := core_mem h hc; rw [show c.it = d.it from (congrArg (·.2.1) e).symm]; exact D.itTI d hd
  itTO := fun c hc => by obtain ⟨d, hd, e⟩ := core_mem h hc; rw [show c.it = d.it from (congrArg (·.2.1) e).symm]; exact D.itTO d hd
  lz := fun c hc => by obtain ⟨d, hd, e⟩ := core_mem h hc; rw [show c.l = d.l from (congrArg (·.2.2) e).symm]; exact D.lz d hd
  lTO := fun c hc => by obtain ⟨d, hd, e⟩ := core_mem h hc; rw [show c.l = d.l from (congrArg (·.2.2) e).symm]; exact D.lTO d hd
  lit := fun c hc c2 hc2 => by
    obtain ⟨d, hd, e⟩ := core_mem h hc
    obtain ⟨d2, hd2, e2⟩ := core_mem h hc2
    rw [show c.l = d.l from (congrArg (·.2.2) e).symm, show c2.it = d2.it from (congrArg (·.2.1) e2).symm]
    exact D.lit d hd d2 hd2
  nd := by
    have := congrArg (List.map fun p : Bool × Addr × Addr => p.2.1) h
    rw [List.map_map, List.map_map] at this
    have e : cs'.map (·.it) = cs.map (·.it) := this
    rw [e]; exact D.nd
theorem core_its {c c' : ZA} {h : Heap} {k : Nat} (e : c.core = c'.core) (x : c.its h k) : c'.its h k := by
  obtain ⟨t, it, l, xs⟩ := c
  obtain ⟨t', it', l', xs'⟩ := c'
  cases e
  exact x
theorem core_ti {cs cs' : List ZA} (h : cs'.map ZA.core = cs.map ZA.core) : (cs'.map fun c => Value.ref c.it) = cs.map fun c => .ref c.it := by
  have := congrArg (List.map fun p : Bool × Addr × Addr => Value.ref p.2.1) h
  rwa [List.map_map, List.map_map] at this
theorem Vals.getr {vs : List V} {us : List Value} {k : Nat} {u : Value} (r : Vals vs us) (h : us[k]? = some u) : ∃ v, vs[k]? = some v ∧ RelV v u := by
  have hk : k < vs.length := by rw [r.length]; exact (List.getElem?_eq_some_iff.mp h).1
  obtain ⟨u', h1, h2⟩ := r.get (List.getElem?_eq_getElem hk)
  rw [h] at h1
  cases h1
  exact ⟨_, List.getElem?_eq_getElem hk, h2⟩
theorem got_vals {hp : Heap} {k : Nat} : ∀ {cs : List ZA} {vss : List (List V)} {got : List Value}, Paired (fun (c : ZA) vs => Vals vs c.xs.toList ∧ c.seq hp) cs vss → got.length = cs.length →
    (∀ (i : Nat) (c : ZA), cs[i]? = some c → ∃ x, c.xs[k]? = some x ∧ got[i]? = some x) → ∃ ys, Vals ys got ∧ ys.length = cs.length ∧ ∀ (j : Nat) (vs : List V), vss[j]? = some vs → ∃ y, vs[k]? = some y ∧ ys[j]? = some y
  | _, _, [], .nil, _, _ => ⟨[], .nil, rfl, fun j vs h => by simp at h⟩
  | _, _, _ :: _, .nil, h, _ => nomatch h
  | _, _, [], .cons _ _, h, _ => nomatch h
  | c :: cs, vs :: vss, x :: got, .cons r t, hl, h => by
    obtain ⟨ys, h1, h2, h3⟩ := got_vals t (by simpa using hl) fun i d hd => h (i + 1) d hd
    obtain ⟨x', e1, e2⟩ := h 0 c rfl
    cases e2
    obtain ⟨v, e3, e4⟩ := Vals.getr r.1 (by simpa using e1)
    refine ⟨v :: ys, .cons e4 h1, by simp [h2], fun j ws hj => ?_⟩
    cases j with
    | zero => cases hj; exact ⟨v, e3, rfl⟩
    | succ j => exact h3 j ws hj
theorem paired_mem {α β : Type} {F : α → β → Prop} : ∀ {l : List α} {k : List β}, Paired F l k → (∀ a ∈ l, ∃ b ∈ k, F a b) ∧ ∀ b ∈ k, ∃ a ∈ l, F a b
  | _, _, .nil => ⟨fun _ h => (nomatch h), fun _ h => (nomatch h)⟩
  | _, _, .cons r t => by
    have ih := paired_mem t
    refine ⟨fun a h => ?_, fun b h => ?_⟩
    · rcases List.mem_cons.mp h with rfl | h
      · exact ⟨_, List.mem_cons_self, r⟩
      · obtain ⟨b, h1, h2⟩ := ih.1 a h; exact ⟨b, List.mem_cons_of_mem _ h1, h2⟩
    · rcases List.mem_cons.mp h with rfl | h
      · exact ⟨_, List.mem_cons_self, r⟩
      · obtain ⟨a, h1, h2⟩ := ih.2 b h; exact ⟨a, List.mem_cons_of_mem _ h1, h2⟩
theorem Inv.tupN {X : Cx} {H : Hp} {h' : Heap} {T : Addr} {ys : List V} {got : List Value} (r : Vals ys got) (hz : ys.length ≤ sizeLine) (e : IsTupV h' T got) : ObjOk X.prog X.w (upd H T (.tup ys)) h' T (.tup ys) :=
  ⟨hz, got, r, ⟨_, e, rfl, _, rfl⟩⟩
theorem turn_zipN {P : Program} {w : World} {K : PySem.W.Frag} {elts : List Expr} {kk : Nat} {tpos : Pos} {z TI TO : Addr} {cs : List ZA} (D : ZApart z TI TO cs) (hne : cs ≠ []) (hn : cs.length ≤ 100) :
    Turn P w K (.Tuple elts kk tpos) (ItzN K cs) ([z, TI, TO] ++ cs.map (·.it)) z (fun i h => IsZip h z TI TO .none ∧ IsTupV h TI (cs.map fun c => .ref c.it) ∧ (∃ ov, ov.length = cs.length ∧ IsTupV h TO ov) ∧ ∀ c ∈ cs, c.its h i) where
  mem := by simp
  obj := fun i h st c hc => by
    obtain ⟨hz, hTI, ⟨ov, _, hTO⟩, hits⟩ := st
    have e' : (c = z ∨ c = TI ∨ c = TO) ∨ c ∈ cs.map (·.it) := by simpa [or_assoc] using hc
    rcases e' with (q | q | q) | q
    · rw [q]; exact ⟨_, hz, fun v q => nomatch q⟩
    · rw [q]; exact ⟨_, hTI, fun v q => nomatch q⟩
    · rw [q]; exact ⟨_, hTO, fun v q => nomatch q⟩
    · obtain ⟨d, hd, rfl⟩ := List.mem_map.mp q
      exact (hits d hd).obj
  keep := fun i h h' st k => by
    obtain ⟨hz, hTI, ⟨ov, hl, hTO⟩, hits⟩ := st
    exact ⟨k z (by simp) _ hz, k TI (by simp) _ hTI, ⟨ov, hl, k TO (by simp) _ hTO⟩, fun c hc => (hits c hc).at fun o q => k c.it (List.mem_append.mpr (.inr (List.mem_map.mpr ⟨c, hc, rfl⟩))) o q⟩
  item := by
    intro X hP hw hK hc i pins s σ H E I hf st hg
    subst hP hw hK
    obtain ⟨hz, hTI, ⟨ov, hov, hTO⟩, hits⟩ := st
    obtain ⟨vss, hsq, hlt⟩ := hg
    obtain ⟨cs', hcore, hp⟩ := sqs_za I hsq
    have hlen : cs'.length = cs.length := by have := congrArg List.length hcore; simpa using this
    have hne' : cs' ≠ [] := fun q => hne (by rw [q] at hlen; exact List.length_eq_zero_iff.mp hlen.symm)
    have hzl : z < s.heap.objs.size := Heap.lt_size hz
    have inn : ∀ {b}, b ∉ [z, TI, TO] ++ cs.map (·.it) → b ≠ z ∧ b ≠ TO ∧ ∀ d ∈ cs', b ≠ d.it := fun {b} hb => ⟨fun q => hb (by simp [q]), fun q => hb (by simp [q]), fun d hd q => by
      obtain ⟨d0, h0, e⟩ := core_mem hcore hd
      exact hb (List.mem_append.mpr (.inr (List.mem_map.mpr ⟨d0, h0, by rw [q]; exact congrArg (·.2.1) e⟩)))⟩
    refine pyNext_zipN (I.ok.hd hc) (core_ap hcore D) hne' (by rw [hlen]; exact hn) hz (by rw [core_ti hcore]; exact hTI) (by rw [hlen]; exact hov) hTO (fun c hc' => by obtain ⟨d, hd, e⟩ := core_mem hcore hc'; exact core_its e (hits d hd)) (fun c hc' => by obtain ⟨vs, _, h2⟩ := (paired_mem hp).1 c hc'; exact h2.2)
      (fun got h' g1 g2 z' TO' its' hT hsz hk => ?_) fun c => ?_
    · obtain ⟨ys, y1, y2, y3⟩ := got_vals hp g1 g2
      refine ⟨_, rfl, wpAny_letOwnedTupleGo_zip (s := { s with heap := h' }) z' fun h'' z'' sb => ?_⟩
      have hT2 : IsTupV h'' s.heap.objs.size got := (sb.2 _ (Nat.ne_of_gt hzl)).trans hT
      have hyl : ys.length ≤ sizeLine := by rw [y2, hlen, sizeLine_eq]; omega
      have I1 : Inv X pins σ (upd H s.heap.objs.size (.tup ys)) { s with heap := h'' } :=
        I.turnedNew (t' := s.toks) (ch := [z, TI, TO] ++ cs.map (·.it)) (fun c o hb q => (sb.2 c (inn hb).1).trans (hk c o (inn hb).1 (inn hb).2.1 (inn hb).2.2 q)) hf (Nat.le_refl _) (Inv.tupN y1 hyl hT2)
      refine ⟨.ref s.heap.objs.size, _, I1, rfl, ⟨_, ys, rfl, I.hok.fresh (Nat.le_refl _), rfl, by rw [y2, hlen], fun vss' hs' j vs hj => ?_⟩, ⟨z'', ?_, ⟨got, by rw [g1, hlen], (sb.2 _ D.TOz).trans TO'⟩, fun c hc' => ?_⟩, fun c hcm => ?_⟩
      · rw [← sqs_inj I hsq hs'] at hj; exact y3 j vs hj
      · refine (sb.2 _ D.TIz).trans (hk TI _ D.TIz D.TITO (fun d hd q => ?_) hTI)
        exact (core_ap hcore D).itTI d hd q.symm
      · obtain ⟨d, hd, e⟩ : ∃ d ∈ cs', d.core = c.core := core_mem hcore.symm hc'
        exact core_its e ((its' d hd).at fun o q => (sb.2 _ ((core_ap hcore D).itz d hd)).trans q)
      · have hlt' : c < s.heap.objs.size := by
          have e' : (c = z ∨ c = TI ∨ c = TO) ∨ c ∈ cs.map (·.it) := by simpa [or_assoc] using hcm
          rcases e' with (q | q | q) | q
          · rw [q]; exact hzl
          · rw [q]; exact Heap.lt_size hTI
          · rw [q]; exact Heap.lt_size hTO
          · obtain ⟨d, hd, rfl⟩ := List.mem_map.mp q
            obtain ⟨_, e1, _⟩ := (hits d hd).obj
            exact Heap.lt_size e1
        rw [upd_ne (Nat.ne_of_lt hlt')]
        exact (hf c hcm).1
    · obtain ⟨c', h1, h2⟩ := c
      obtain ⟨vs, h3, h4⟩ := (paired_mem hp).1 c' h1
      have := hlt vs h3
      rw [h4.1.length] at this
      simp at h2
      rw [Array.length_toList] at this
      omega
  done := by
    intro X hP hw hK hc i pins s σ H E I hf st hg
    subst hP hw hK
    obtain ⟨hz, hTI, ⟨ov, hov, hTO⟩, hits⟩ := st
    obtain ⟨vss, hsq, vs, hvs, hle⟩ := hg
    obtain ⟨cs', hcore, hp⟩ := sqs_za I hsq
    have hlen : cs'.length = cs.length := by have := congrArg List.length hcore; simpa using this
    have hne' : cs' ≠ [] := fun q => hne (by rw [q] at hlen; exact List.length_eq_zero_iff.mp hlen.symm)
    have inn : ∀ {b}, b ∉ [z, TI, TO] ++ cs.map (·.it) → b ≠ z ∧ b ≠ TO ∧ ∀ d ∈ cs', b ≠ d.it := fun {b} hb => ⟨fun q => hb (by simp [q]), fun q => hb (by simp [q]), fun d hd q => by
      obtain ⟨d0, h0, e⟩ := core_mem hcore hd
      exact hb (List.mem_append.mpr (.inr (List.mem_map.mpr ⟨d0, h0, by rw [q]; exact congrArg (·.2.1) e⟩)))⟩
    refine pyNext_zipN (I.ok.hd hc) (core_ap hcore D) hne' (by rw [hlen]; exact hn) hz (by rw [core_ti hcore]; exact hTI) (by rw [hlen]; exact hov) hTO (fun c hc' => by obtain ⟨d, hd, e⟩ := core_mem hcore hc'; exact core_its e (hits d hd)) (fun c hc' => by obtain ⟨vs, _, h2⟩ := (paired_mem hp).1 c hc'; exact h2.2)
      (fun got h' g1 g2 z' TO' its' hT hsz hk => ?_) fun c h' hk => ⟨rfl, I.turnedL (t' := s.toks) (ch := [z, TI, TO] ++ cs.map (·.it)) (fun c o hb q => hk c o (inn hb).1 (inn hb).2.1 (inn hb).2.2 q) hf⟩
    obtain ⟨c', h1, h2⟩ := (paired_mem hp).2 vs hvs
    obtain ⟨j, hj⟩ := List.getElem?_of_mem h1
    obtain ⟨x, e1, _⟩ := g2 j c' hj
    have e3 := (Array.getElem?_eq_some_iff.mp e1).1
    have e4 : vs.length = c'.xs.toList.length := h2.1.length
    rw [e4, Array.length_toList] at hle
    exact absurd e3 (Nat.not_lt.mpr hle)
  self := fun A i s Q E st h => wpAny_pyIter_zip st.1 h
def iZipN (K : PySem.W.Frag) (n : Nat) (ta : TA) : TI := fun σ H R => ta σ H fun vs H1 => ∃ cs vss, cs.length = n ∧ vs = cs.map (fun c => V.ref c.l) ∧ Paired (SqB K H1) cs vss ∧ R (ItzN K cs) H1
theorem sqB_put {K : PySem.W.Frag} {H : Hp} {c : ZA} {vs : List V} (a : Addr) (h : SqB K H c vs) : SqB K H (putIt c a) vs := h
section
variable {X : Cx} {e e2 e3 : Expr} {ta : TA} {p pos tpos : Pos} {elts : List Expr} {kk : Nat}
theorem vals_refs : ∀ {cs : List ZA} {us : List Value}, Vals (cs.map fun c => V.ref c.l) us → us = cs.map fun c => Value.ref c.l
  | [], _, .nil => rfl
  | c :: cs, _, .cons r t => by rw [vals_refs t, List.map_cons]; cases r; rfl
theorem itzN_core (K : PySem.W.Frag) {cs cs' : List ZA} (h : ∀ (H : Hp) vss, Paired (SqB K H) cs vss ↔ Paired (SqB K H) cs' vss) (hl : cs.length = cs'.length) : ItzN K cs = ItzN K cs' := by
  have : ∀ H, (fun vss => Paired (SqB K H) cs vss) = fun vss => Paired (SqB K H) cs' vss := fun H => funext fun vss => propext (h H vss)
  unfold ItzN
  simp only [h, hl]
theorem pi_zipN2 (hg : Gl X "zip") (hm : X.mg "zip" = none) (ha : PA X [e, e2] ta)
    (hs : starEach [e, e2] X.env = (false, eval e X.env) :: starEach [e2] X.env := by rfl) (hpl : (backTo pos (starEach [e2] X.env)).any (·.1) = false := by rfl) :
    PI X (.Tuple elts kk tpos) (.Call (.Name "zip" p) [e, e2] [] pos) (iZipN X.K 2 ta) := by
  refine ⟨fun pins s σ H R I h => ?_⟩
  refine Call_ (ld_blt I hg hm PyProof.Rows.boot_zip (PyProof.Rows.callWith_type1 (thn (ha.run pos pins s σ H _ I h) fun us s1 ⟨vs, H1, I1, r1, cs, vss, hn, ev, hsq, q1⟩ => ?_) hs hpl))
  subst ev
  rw [vals_refs r1]
  obtain ⟨cs', hcore, hp⟩ := sqs_za I1 hsq
  match cs, hn, hcore, hsq, q1 with
  | [c1, c2], _, hcore, .cons _ (.cons _ .nil), q1 =>
    cases hp with
    | @cons d1 _ _ _ p1 pt => cases pt with | @cons d2 _ _ _ p2 pn =>
    cases pn
    simp only [List.map_cons, List.map_nil, List.cons.injEq, and_true] at hcore
    have k1 : c1.l = d1.l := (congrArg (·.2.2) hcore.1).symm
    have k2 : c2.l = d2.l := (congrArg (·.2.2) hcore.2).symm
    · simp only [List.map_cons, List.map_nil]
      rw [k1, k2]
      refine call_zip2 p1.2 p2.2 fun h' z TI TO cs2 ecs N hfr hk => wpAny_pyIter_zip N.zz ?_
      have I2 : Inv X pins σ H1 { s1 with heap := h' } := I1.kept (t' := s1.toks) hk
      have hI : ItzN X.K cs2 = ItzN X.K [c1, c2] := by
        subst ecs
        have t1 : d1.t = c1.t := congrArg (·.1) hcore.1
        have t2 : d2.t = c2.t := congrArg (·.1) hcore.2
        refine itzN_core X.K (fun H vss => ?_) rfl
        have e1 : ∀ vs, SqB X.K H (putIt d1 s1.heap.objs.size) vs ↔ SqB X.K H c1 vs := fun vs => by
          show SqB X.K H d1 vs ↔ _
          unfold SqB; rw [t1, ← k1]
        have e2 : ∀ vs, SqB X.K H (putIt d2 (s1.heap.objs.size + 1)) vs ↔ SqB X.K H c2 vs := fun vs => by
          show SqB X.K H d2 vs ↔ _
          unfold SqB; rw [t2, ← k2]
        constructor
        · intro q; cases q with | cons a b => cases b with | cons b c => cases c; exact .cons ((e1 _).mp a) (.cons ((e2 _).mp b) .nil)
        · intro q; cases q with | cons a b => cases b with | cons b c => cases c; exact .cons ((e1 _).mpr a) (.cons ((e2 _).mpr b) .nil)
      refine ⟨z, _, _, ItzN X.K cs2, H1, rfl, I2, turn_zipN N.ap (by rw [ecs]; exact fun q => nomatch q) (by rw [ecs]; exact Nat.le_of_ble_eq_true rfl), ⟨N.zz, N.ti, N.to, N.its⟩, fun b hb => ?_, by rw [hI]; exact q1⟩
      have hle := hfr b hb
      exact I1.fpOk hle (I1.hok.fresh hle)
theorem pi_zipN3 (hg : Gl X "zip") (hm : X.mg "zip" = none) (ha : PA X [e, e2, e3] ta)
    (hs : starEach [e, e2, e3] X.env = (false, eval e X.env) :: starEach [e2, e3] X.env := by rfl) (hpl : (backTo pos (starEach [e2, e3] X.env)).any (·.1) = false := by rfl) :
    PI X (.Tuple elts kk tpos) (.Call (.Name "zip" p) [e, e2, e3] [] pos) (iZipN X.K 3 ta) := by
  refine ⟨fun pins s σ H R I h => ?_⟩
  refine Call_ (ld_blt I hg hm PyProof.Rows.boot_zip (PyProof.Rows.callWith_type1 (thn (ha.run pos pins s σ H _ I h) fun us s1 ⟨vs, H1, I1, r1, cs, vss, hn, ev, hsq, q1⟩ => ?_) hs hpl))
  subst ev
  rw [vals_refs r1]
  obtain ⟨cs', hcore, hp⟩ := sqs_za I1 hsq
  match cs, hn, hcore, hsq, q1 with
  | [c1, c2, c3], _, hcore, .cons _ (.cons _ (.cons _ .nil)), q1 =>
    cases hp with
    | @cons d1 _ _ _ p1 pt => cases pt with | @cons d2 _ _ _ p2 pt => cases pt with | @cons d3 _ _ _ p3 pn =>
    cases pn
    simp only [List.map_cons, List.map_nil, List.cons.injEq, and_true] at hcore
    have k1 : c1.l = d1.l := (congrArg (·.2.2) hcore.1).symm
    have k2 : c2.l = d2.l := (congrArg (·.2.2) hcore.2.1).symm
    have k3 : c3.l = d3.l := (congrArg (·.2.2) hcore.2.2).symm
    · simp only [List.map_cons, List.map_nil]
      rw [k1, k2, k3]
      refine call_zip3 p1.2 p2.2 p3.2 fun h' z TI TO cs2 ecs N hfr hk => wpAny_pyIter_zip N.zz ?_
      have I2 : Inv X pins σ H1 { s1 with heap := h' } := I1.kept (t' := s1.toks) hk
      have hI : ItzN X.K cs2 = ItzN X.K [c1, c2, c3] := by
        subst ecs
        have t1 : d1.t = c1.t := congrArg (·.1) hcore.1
        have t2 : d2.t = c2.t := congrArg (·.1) hcore.2.1
        have t3 : d3.t = c3.t := congrArg (·.1) hcore.2.2
        refine itzN_core X.K (fun H vss => ?_) rfl
        have e1 : ∀ vs, SqB X.K H (putIt d1 s1.heap.objs.size) vs ↔ SqB X.K H c1 vs := fun vs => by
          show SqB X.K H d1 vs ↔ _
          unfold SqB; rw [t1, ← k1]
        have e2 : ∀ vs, SqB X.K H (putIt d2 (s1.heap.objs.size + 1)) vs ↔ SqB X.K H c2 vs := fun vs => by
          show SqB X.K H d2 vs ↔ _
          unfold SqB; rw [t2, ← k2]
        have e3 : ∀ vs, SqB X.K H (putIt d3 (s1.heap.objs.size + 2)) vs ↔ SqB X.K H c3 vs := fun vs => by
          show SqB X.K H d3 vs ↔ _
          unfold SqB; rw [t3, ← k3]
        constructor
        · intro q; cases q with | cons a b => cases b with | cons b c => cases c with | cons c d => cases d; exact .cons ((e1 _).mp a) (.cons ((e2 _).mp b) (.cons ((e3 _).mp c) .nil))
        · intro q; cases q with | cons a b => cases b with | cons b c => cases c with | cons c d => cases d; exact .cons ((e1 _).mpr a) (.cons ((e2 _).mpr b) (.cons ((e3 _).mpr c) .nil))
      refine ⟨z, _, _, ItzN X.K cs2, H1, rfl, I2, turn_zipN N.ap (by rw [ecs]; exact fun q => nomatch q) (by rw [ecs]; exact Nat.le_of_ble_eq_true rfl), ⟨N.zz, N.ti, N.to, N.its⟩, fun b hb => ?_, by rw [hI]; exact q1⟩
      have hle := hfr b hb
      exact I1.fpOk hle (I1.hok.fresh hle)
end
/-! plain -/
def frzOf : D → Option (List D)
  | .tup l => some l
  | .lst l => some l
  | _ => none
def zip3L : List D → List D → List D → List D
  | x :: l, k, m => (match k with | y :: k => (match m with | z :: m => .tup [x, y, z] :: zip3L l k m | [] => []) | [] => [])
  | [], _, _ => []
def zipD2 (l : List D) : Option (List D) := match l with
  | [d, d2] => (match frzOf d with | some a => (match frzOf d2 with | some b => some (zipL a b) | none => none) | none => none)
  | _ => none
def zipD3 (l : List D) : Option (List D) := match l with
  | [d, d2, d3] => (match frzOf d with | some a => (match frzOf d2 with | some b => (match frzOf d3 with | some c => some (zip3L a b c) | none => none) | none => none) | none => none)
  | _ => none
theorem zip3L_len : ∀ (l k m : List D), (zip3L l k m).length = min l.length (min k.length m.length)
  | [], _, _ => by simp [zip3L]
  | x :: l, [], _ => by simp [zip3L]
  | x :: l, y :: k, [] => by simp [zip3L]
  | x :: l, y :: k, z :: m => by simp only [zip3L, List.length_cons, zip3L_len l k m]; omega
theorem zip3L_get : ∀ (l k m : List D) (i : Nat) (x y z : D), l[i]? = some x → k[i]? = some y → m[i]? = some z → (zip3L l k m)[i]? = some (.tup [x, y, z])
  | [], _, _, _, _, _, _, h, _, _ => by simp at h
  | x :: l, [], _, _, _, _, _, _, h, _ => by simp at h
  | x :: l, y :: k, [], _, _, _, _, _, _, h => by simp at h
  | x :: l, y :: k, z :: m, 0, _, _, _, h1, h2, h3 => by simp at h1 h2 h3; subst h1; subst h2; subst h3; simp [zip3L]
  | x :: l, y :: k, z :: m, i + 1, a, b, c, h1, h2, h3 => by
    rw [zip3L, List.getElem?_cons_succ]
    exact zip3L_get l k m i a b c (by simpa using h1) (by simpa using h2) (by simpa using h3)
theorem rd_frz {K : PySem.W.Frag} {F : Hp} {d : D} {v : V} {l : List D} (r : Rd K F d v) (e : frzOf d = some l) : ∃ c vs, v = V.ref c.l ∧ RdL K F l vs ∧ ∀ F' H', Same F F' → Same F' H' → SqB K H' c vs := by
  cases d with
  | tup k => cases e; cases r with | tup h1 r1 => exact ⟨⟨true, 0, _, #[]⟩, _, rfl, r1, fun F' H' s1 s2 => SqT.same s2 (SqT.sameX s1 h1)⟩
  | lst k => cases e; cases r with | lst h1 r1 => exact ⟨⟨false, 0, _, #[]⟩, _, rfl, r1, fun F' H' s1 s2 => .inl (.inl (s2 _ _ (s1 _ _ h1)))⟩
  | _ => cases e
section
variable {X : Cx} {cl : Nat → Value} {W : WX} {a b c : Expr} {L : CA} {p pos tpos : Pos} {elts : List Expr} {kk : Nat}
theorem ppi_zip2 (hg : Gl X "zip") (hm : X.mg "zip" = none) (ha : PPA X cl W [a, b] L)
    (hs : starEach [a, b] X.env = (false, eval a X.env) :: starEach [b] X.env := by rfl) (hpl : (backTo pos (starEach [b] X.env)).any (·.1) = false := by rfl) : PPI X cl W (.Tuple elts kk tpos) (.Call (.Name "zip" p) [a, b] [] pos) (iR zipD2 L) :=
  PI.imp (pi_zipN2 hg hm ha hs hpl) fun σ H R ⟨F, e, st, h⟩ => goI st h fun l r F' H' vs e1 x rd k => by
    match l, rd, e1 with
    | [d, d2], .cons r1 (.cons r2 .nil), e1 =>
      simp only [zipD2] at e1
      cases q1 : frzOf d with
      | none => rw [q1] at e1; cases e1
      | some l1 =>
        cases q2 : frzOf d2 with
        | none => rw [q1, q2] at e1; cases e1
        | some l2 =>
          rw [q1, q2] at e1
          cases e1
          obtain ⟨c1, v1, rfl, rl1, s1⟩ := rd_frz r1 q1
          obtain ⟨c2, v2, rfl, rl2, s2⟩ := rd_frz r2 q2
          have sq : ∀ F2 H2, Same F' F2 → Same F2 H2 → Paired (SqB X.K H2) [c1, c2] [v1, v2] := fun F2 H2 z1 z2 => .cons (s1 F2 H2 z1 z2) (.cons (s2 F2 H2 z1 z2) .nil)
          refine ⟨[c1, c2], [v1, v2], rfl, rfl, sq F' H' (Same.refl _) x.sub, k _ fun F2 H2 z1 z2 => ⟨fun i hi => ⟨_, sq F2 H2 z1 z2, fun vs hv => ?_⟩, fun i hi => ⟨_, sq F2 H2 z1 z2, ?_⟩, fun i v H'' hi y => ?_⟩⟩
          · rw [zipL_len, rl1.length, rl2.length] at hi
            simp only [List.mem_cons, List.not_mem_nil, or_false] at hv
            rcases hv with rfl | rfl <;> omega
          · rw [zipL_len, rl1.length, rl2.length] at hi
            by_cases q : v1.length ≤ i
            · exact ⟨v1, by simp, q⟩
            · exact ⟨v2, by simp, by omega⟩
          · obtain ⟨T, ys, rfl, nT, rfl, hl, hy⟩ := y
            have g := hy _ (sq F2 H2 z1 z2)
            obtain ⟨y1, a1, b1⟩ := g 0 v1 rfl
            obtain ⟨y2, a2, b2⟩ := g 1 v2 rfl
            obtain ⟨d1, m1, n1⟩ := rl1.get' a1
            obtain ⟨d2, m2, n2⟩ := rl2.get' a2
            have ey : ys = [y1, y2] := by
              match ys, hl with
              | [u1, u2], _ => simp only [List.getElem?_cons_zero, List.getElem?_cons_succ, Option.some.injEq] at b1 b2; rw [b1, b2]
            subst ey
            have w := Ext.put z2 nT (.tup [y1, y2])
            exact ⟨_, _, zipL_get l1 l2 i d1 d2 m1 m2, w, .inr ⟨_, _, T, rfl, rfl, .of upd_same, .cons (n1.same (z1.trans w.f)) (.cons (n2.same (z1.trans w.f)) .nil)⟩⟩
theorem ppi_zip3 (hg : Gl X "zip") (hm : X.mg "zip" = none) (ha : PPA X cl W [a, b, c] L)
    (hs : starEach [a, b, c] X.env = (false, eval a X.env) :: starEach [b, c] X.env := by rfl) (hpl : (backTo pos (starEach [b, c] X.env)).any (·.1) = false := by rfl) : PPI X cl W (.Tuple elts kk tpos) (.Call (.Name "zip" p) [a, b, c] [] pos) (iR zipD3 L) :=
  PI.imp (pi_zipN3 hg hm ha hs hpl) fun σ H R ⟨F, e, st, h⟩ => goI st h fun l r F' H' vs e1 x rd k => by
    match l, rd, e1 with
    | [d, d2, d3], .cons r1 (.cons r2 (.cons r3 .nil)), e1 =>
      simp only [zipD3] at e1
      cases q1 : frzOf d with
      | none => rw [q1] at e1; cases e1
      | some l1 =>
        cases q2 : frzOf d2 with
        | none => rw [q1, q2] at e1; cases e1
        | some l2 =>
         cases q3 : frzOf d3 with
         | none => rw [q1, q2, q3] at e1; cases e1
         | some l3 =>
          rw [q1, q2, q3] at e1
          cases e1
          obtain ⟨c1, v1, rfl, rl1, s1⟩ := rd_frz r1 q1
          obtain ⟨c2, v2, rfl, rl2, s2⟩ := rd_frz r2 q2
          obtain ⟨c3, v3, rfl, rl3, s3⟩ := rd_frz r3 q3
          have sq : ∀ F2 H2, Same F' F2 → Same F2 H2 → Paired (SqB X.K H2) [c1, c2, c3] [v1, v2, v3] := fun F2 H2 z1 z2 => .cons (s1 F2 H2 z1 z2) (.cons (s2 F2 H2 z1 z2) (.cons (s3 F2 H2 z1 z2) .nil))
          refine ⟨[c1, c2, c3], [v1, v2, v3], rfl, rfl, sq F' H' (Same.refl _) x.sub, k _ fun F2 H2 z1 z2 => ⟨fun i hi => ⟨_, sq F2 H2 z1 z2, fun vs hv => ?_⟩, fun i hi => ⟨_, sq F2 H2 z1 z2, ?_⟩, fun i v H'' hi y => ?_⟩⟩
          · rw [zip3L_len, rl1.length, rl2.length, rl3.length] at hi
            simp only [List.mem_cons, List.not_mem_nil, or_false] at hv
            rcases hv with rfl | rfl | rfl <;> omega
          · rw [zip3L_len, rl1.length, rl2.length, rl3.length] at hi
            by_cases q : v1.length ≤ i
            · exact ⟨v1, by simp, q⟩
            · by_cases q2 : v2.length ≤ i
              · exact ⟨v2, by simp, q2⟩
              · exact ⟨v3, by simp, by omega⟩
          · obtain ⟨T, ys, rfl, nT, rfl, hl, hy⟩ := y
            have g := hy _ (sq F2 H2 z1 z2)
            obtain ⟨y1, a1, b1⟩ := g 0 v1 rfl
            obtain ⟨y2, a2, b2⟩ := g 1 v2 rfl
            obtain ⟨y3, a3, b3⟩ := g 2 v3 rfl
            obtain ⟨d1, m1, n1⟩ := rl1.get' a1
            obtain ⟨d2, m2, n2⟩ := rl2.get' a2
            obtain ⟨d3, m3, n3⟩ := rl3.get' a3
            have ey : ys = [y1, y2, y3] := by
              match ys, hl with
              | [u1, u2, u3], _ => simp only [List.getElem?_cons_zero, List.getElem?_cons_succ, Option.some.injEq] at b1 b2 b3; rw [b1, b2, b3]
            subst ey
            have w := Ext.put z2 nT (.tup [y1, y2, y3])
            exact ⟨_, _, zip3L_get l1 l2 l3 i d1 d2 d3 m1 m2 m3, w, .inr ⟨_, _, T, rfl, rfl, .of upd_same, .cons (n1.same (z1.trans w.f)) (.cons (n2.same (z1.trans w.f)) (.cons (n3.same (z1.trans w.f)) .nil))⟩⟩
end
end M
namespace M
open PySem PySem.Spec PyProof.Rows L2 SeqAt SrtO

/-! ### sorted(d), len(d) -/
def keyV2 (E : DE) : List V := E.map fun e => V.ref e.2.1
theorem RdE.keysL {K : PySem.W.Frag} {F : Hp} : ∀ {E : DE} {ks ds : List D}, RdE K F E ks ds → RdL K F ks (E.map fun e => V.ref e.2.1)
  | _, _, _, .nil => .nil
  | _, _, _, .cons r q t => .cons r (RdE.keysL t)
theorem RdE.valsL {K : PySem.W.Frag} {F : Hp} : ∀ {E : DE} {ks ds : List D}, RdE K F E ks ds → RdL K F ds (E.map (·.2.2))
  | _, _, _, .nil => .nil
  | _, _, _, .cons r q t => .cons q (RdE.valsL t)
theorem refs_vals : ∀ E : DE, Vals (E.map fun e => V.ref e.2.1) (E.map fun e => Value.ref e.2.1)
  | [] => .nil
  | _ :: E => .cons rfl (refs_vals E)
theorem entD_keys (w : World) : ∀ {E : DE} {vs : List Value}, E.length = vs.length → (entD w E vs).map (·.key) = E.map fun e => Value.ref e.2.1
  | [], [], _ => rfl
  | e :: E, v :: vs, h => by
    show Value.ref e.2.1 :: (entD w E vs).map _ = _
    rw [entD_keys w (E := E) (vs := vs) (by simpa using h)]
    rfl
theorem entD_len (w : World) {E : DE} {vs : List Value} (h : E.length = vs.length) : (entD w E vs).length = E.length := by
  unfold entD
  rw [List.length_zipWith]
  omega
section
variable {X : Cx} {pins : List (Addr × Obj)} {σ : L2.St} {F H : Hp} {s : Shared} {a : Addr} {E : DE} {ks ds : List D}
theorem dct_raw (I : Inv X pins σ H s) (e : H a = some (DctO a E)) : ∃ es ep vs, s.heap.DictRaw a es ep ∧ (a == sysModules) = false ∧ es.size = E.length ∧ E.length ≤ 900000 ∧ Vals (E.map (·.2.2)) vs ∧ E.length = vs.length ∧ es.toList = entD X.w E vs := by
  obtain ⟨⟨hd, hl, nd, ok⟩, o, es, ep, vs, ho, hx, hda, rv, hes⟩ := dct_of I e
  have hlen : E.length = vs.length := by have := rv.length; simpa using this
  exact ⟨es, ep, vs, ⟨o, ho, hx, hda⟩, hd, by rw [← Array.length_toList, hes X.w, entD_len _ hlen], hl, rv, hlen, hes X.w⟩
def rSortD2 (K : PySem.W.Frag) : List V → Hp → VK → Prop := fun vs H Q => ∃ F a x ks ds, vs = [x] ∧ Same F H ∧ RdT K F H a x ∧ dctOf a = some (ks, ds) ∧ srtOk ks = true ∧ ∀ p ws, H p = none → RdL K F (srtD ks) ws → ws.length ≤ sizeLine → Q (.ref p) (upd H p (.lst ws))
theorem call_sortDict (hcalm : X.calm = true) (hu : X.A.units + 64 < cLine) : CallR X (.builtin "sorted") (rSortD2 X.K) := by
  intro pins s σ H xs us Q I r h
  obtain ⟨F, d, x, ks, ds, rfl, sm, ra, ed, ok, q⟩ := h
  obtain ⟨p, E, rfl, e1, rE⟩ := ra.dct sm ed
  rw [Vals.ref1 r]
  obtain ⟨es, ep, vs0, hraw, hd, hsz, hl, rv0, hlen0, hes⟩ := dct_raw I e1
  have rl := rE.keysL
  have rv := refs_vals E
  have hz : (E.map fun e => V.ref e.2.1).length ≤ sizeLine := by rw [List.length_map, sizeLine_eq]; omega
  have hall : allQ ks = true := allQ_of fun d hd => isQ_conf _ _ (confAll_mem ok d hd).1
  obtain ⟨Tr, t, t1, t2, t3⟩ := RdL.tri I sm rl rv hall
  refine Calls.call_function_entry kind_sorted plain_sorted entry_sorted (args_sorted1 _) ?_
  unfold Builtin.«sorted»
  refine wpAny_bind (m := checkCount "sorted" 1 1 _) (wpAny_pure ?_)
  refine wpAny_bind (PySem.W.kdu_collect (A := X.A.in1) (PySem.KdlSrc.rawDict (es := es) (ep := ep) hd) (I.ok.hd hcalm) hraw (by rw [hsz, sizeLine_eq]; omega) fun h' tk acc keep hacc => ?_)
  have hits : acc.toList = E.map fun e => Value.ref e.2.1 := by
    rw [← entD_keys X.w hlen0, ← hes]
    refine List.ext_getElem? fun i => ?_
    rw [Array.getElem?_toList, List.getElem?_map, Array.getElem?_toList]
    by_cases hi : i < es.size
    · have hi' : i < acc.size := by rw [hacc.1]; exact hi
      obtain ⟨_, e⟩ := hacc.2 i acc[i] (Array.getElem?_eq_getElem hi')
      rw [Array.getElem?_eq_getElem hi', Array.getElem?_eq_getElem hi, e]
      rfl
    · rw [Array.getElem?_eq_none (by rw [hacc.1]; omega), Array.getElem?_eq_none (by omega)]
      rfl
  rw [hits]
  generalize hI : (E.map fun e => Value.ref e.2.1) = its at *
  have hlen : its.length = E.length := by rw [← hI, List.length_map]
  have K : Keyd h' its (keyV s.heap) (shAll .any ks) := by
    have := keyd_of t (by rw [t1]; exact ok)
    rw [t1, t3] at this
    exact this.keep fun b o e _ => keep b o e
  have zz : its.length ≤ sizeLine := by rw [hlen, sizeLine_eq]; omega
  refine wpAny_bind (wpAny_mono (sort_new (prog := X.prog) (w := X.w) (A := X.A.in1) (E := _) (s := { s with heap := h', toks := tk }) (Q := fun v s2 => EP X pins σ Q v s2) (swoX (keyV s.heap) (keyV_q s.heap)) zz (fun _ => K) (by simp only [Around.in1_units]; omega) fun h'' c out k2 hg hs hb => ?_) (fun l s1 h1 => ?_) fun _ _ x => x)
  · obtain ⟨ws, w1, w2⟩ := tri_sorted t hs (by rw [t3]; exact hb)
    rw [t1] at w1
    have hg0 : s.heap.get? h'.objs.size = none := by
      cases z : s.heap.get? h'.objs.size with
      | none => rfl
      | some o => exact absurd (Heap.lt_size (keep _ _ z)) (Nat.lt_irrefl _)
    have hn : H h'.objs.size = none := I.hok.gone hg0
    have wl : ws.length ≤ sizeLine := by
      have a1 := w2.length
      have a2 := hb.perm.length_eq
      omega
    exact ⟨.ref h'.objs.size, upd H h'.objs.size (.lst ws), I.laidN (t' := tk) (fun b u e => k2 b u (keep b u e)) hg0 hn ⟨wl, out, c, w2, hg⟩, rfl, q _ ws hn w1 wl⟩
  · exact wpAny_bind (wpAny_mono h1 (fun _ s2 h2 => wpAny_pure ⟨_, rfl, h2⟩) fun _ _ x => x)
theorem call_sortP2 (hcalm : X.calm = true) (hu : X.A.units + 64 < cLine) : CallR X (.builtin "sorted") (fun vs H Q => rSortP X.K vs H Q ∨ rSortD2 X.K vs H Q) := by
  intro pins s σ H xs us Q I r h
  rcases h with h | h
  · exact call_sortP hu pins s σ H xs us Q I r h
  · exact call_sortDict hcalm hu pins s σ H xs us Q I r h
def lenD2 (d : D) : Option D := match dctOf d with
  | some (ks, _) => some (.int ks.length)
  | none => lenD d
theorem call_lenP2 : CallR X (.builtin "len") (rB1 X.K lenD2) := by
  intro pins s σ H xs us Q I r h
  obtain ⟨F, d, x, v, rfl, sm, ra, e, q⟩ := h
  unfold lenD2 at e
  cases z : dctOf d with
  | none => rw [z] at e; exact call_lenP pins s σ H _ us Q I r ⟨F, d, x, v, rfl, sm, ra, e, q⟩
  | some pr =>
    obtain ⟨ks, ds⟩ := pr
    rw [z] at e
    cases e
    obtain ⟨p, E, rfl, e1, rE⟩ := ra.dct sm z
    rw [Vals.ref1 r]
    obtain ⟨vs0, rv0, dd, hd, hl, _⟩ := dofh I sm e1 rE
    have hk : ks.length = E.length := by rw [rE.ks, List.length_map]
    have hv := rv0.length
    rw [List.length_map] at hv
    have hx : (xsOf E vs0).length = E.length := by unfold xsOf; rw [List.length_zipWith]; omega
    refine PySem.call_len_dictH hd dd (by rw [hx]; omega) ?_
    rw [hx, ← hk]
    exact ⟨.int _, H, I.tok _, ⟨_, rfl⟩, ext_same sm q (.of (.int _))⟩
end
def nSrt2 (A : CE) : CA := fun e => (A e).bind fun d => match dctOf d with
  | some (ks, _) => (match srtOk ks with | true => .ok (srtD ks) | false => .bad)
  | none => (match toLst d with
    | some l => (match srtOk l with | true => .ok (srtD l) | false => .bad)
    | none => .bad)
section
variable {X : Cx} {cl : Nat → Value} {W : WX} {a : Expr} {A : CE} {p3 pos : Pos}
theorem ppn_sorted2 (hcalm : X.calm = true) (hu : X.A.units + 64 < cLine) (hl : Gl X "sorted") (ml : X.mg "sorted" = none) (ha : PP X cl W a A) (h1 : starEach [a] X.env = (false, eval a X.env) :: starEach [] X.env := by rfl) (h3 : (backTo pos (starEach [] X.env)).any (·.1) = false := by rfl) :
    PPN X cl W (.Call (.Name "sorted" p3) [a] [] pos) (nSrt2 A) :=
  PE.imp (pe_callB (call_sortP2 hcalm hu) hl ml rfl (pa_cons ha pa_nil h1) (by decide) (by decide) h1 h3) fun σ H Q ⟨F, e, st, h⟩ => by
    refine go1N st h fun d F1 H1 v x1 st1 r1 h1 => ?_
    cases zd : dctOf d with
    | some pr =>
      obtain ⟨ks, ds⟩ := pr
      rw [zd] at h1
      simp only at h1
      cases y : srtOk ks with
      | false => rw [y] at h1; exact h1.elim
      | true =>
        rw [y] at h1
        exact .inr ⟨F1, d, v, ks, ds, rfl, st1.sub, r1, zd, y, fun p ws np rw' hz => h1 F1 H1 p ws (Ext.refl st1.sub) np rw' hz⟩
    | none =>
      rw [zd] at h1
      simp only at h1
      cases z : toLst d with
      | none => rw [z] at h1; exact h1.elim
      | some l =>
        rw [z] at h1
        simp only at h1
        cases y : srtOk l with
        | false => rw [y] at h1; exact h1.elim
        | true =>
          rw [y] at h1
          exact .inl ⟨F1, d, v, l, rfl, st1.sub, r1, z, y, fun p ws np rw' hz => h1 F1 H1 p ws (Ext.refl st1.sub) np rw' hz⟩
end
end M
namespace M
open PySem PySem.Spec PyProof.Rows L2

/-! ### x, y = a, b where x or y is seen by an inner block -/
section
variable {X : Cx} {cl : Nat → Value} {W : WX} {F0 H0 : Hp} {a b : Expr} {O O2 : CU} {pos : Pos} {i j : Nat} {x y : Str} {px py pt : Pos} {kt k2 : Nat} {pt2 : Pos}
theorem u_core {Dn : Ends} {F H : Hp} {e : En} {σ : L2.St} {R : List V → Hp → Prop} (s : StS X.K F0 H0 F e σ H) (hli : i < e.length) (hl : j < e.length) (h : PostS X.K cl W F0 H0 F Dn (rU (O e) e fun o => rU (O2 e) e fun o2 => .nx ((e.set i o).set j o2)))
    (hR : ∀ (v v2 : V) (F3 H3 : Hp) (e3 : En), StS X.K F0 H0 F3 e3 ((σ.set i (some v)).set j (some v2)) H3 → PostS X.K cl W F0 H0 F3 Dn (.nx e3) → R [v, v2] H3) :
    tCons (tU X.K cl W O) (tCons (tU X.K cl W O2) tNil) σ H R := by
  refine goSU s h fun o F1 H1 v x1 s1 ok fr h1 => ?_
  refine goSU s1 h1 fun o2 F2 H2 v2 x2 s2 ok2 fr2 h2 => ?_
  have p1 := s.putU s2 hli (ok.ext x2) fr fun _ j t b _ _ q1 q2 => .inl ⟨q1, q2⟩
  have hlσ : i < σ.length := by rw [← s.st.len]; exact hli
  have ok1 := ok
  refine hR v v2 F2 H2 _ (s1.putU p1 (by rw [List.length_set]; exact hl) ok2 fr2 fun ho2 k t b ht hk q1 q2 => ?_) h2
  by_cases hik : i = k
  · subst hik
    refine .inr fun hv => ?_
    rw [List.getElem?_set_self hli] at q1
    rw [List.getElem?_set_self hlσ] at q2
    cases q1
    have q2' : v = .ref b := Option.some.inj (Option.some.inj q2)
    obtain ⟨a', u, e1, e2, _⟩ := SlOk.at ht ok1
    rw [q2'] at e1
    cases e1
    rw [fr2 ho2 b hv] at e2
    cases e2
  · rw [List.getElem?_set_ne hik] at q1 q2
    exact .inl ⟨q1, q2⟩
theorem pps_asgU (hc : X.calm = true) (hN : X.N.Nodup) (hi : X.N[i]? = some x) (hj : X.N[j]? = some y) (hx : Loc X.env.scope x) (hy : Loc X.env.scope y) (ha : PPU X cl W a O) (hb : PPU X cl W b O2)
    (hs : swapsWithSole [.Tuple [.Name x px, .Name y py] kt pt] (.Tuple [a, b] k2 pt2) pos.line X.env = pure false := by rfl) (hw : swappedStores [.Tuple [.Name x px, .Name y py] kt pt] (.Tuple [a, b] k2 pt2) X.env = pure none := by rfl)
    (h0 : (assignEach [.Tuple [.Name x px, .Name y py] kt pt] X.env).map (·.2) = [assign (.Tuple [.Name x px, .Name y py] kt pt) X.env] := by rfl)
    (hn : (assignEach [.Name x px, .Name y py] X.env).length = 2 := by rfl) (hst : (assignEach [.Name x px, .Name y py] X.env).findIdx? (·.1) = none := by rfl)
    (hf : X.fn x = true ∨ X.env.scope.names.lookup x = some .local := by first | exact .inl rfl | exact .inr rfl | assumption) (hf2 : X.fn y = true ∨ X.env.scope.names.lookup y = some .local := by first | exact .inl rfl | exact .inr rfl | assumption)
    (h1 : starEach [a, b] X.env = (false, eval a X.env) :: starEach [b] X.env := by rfl) (h2 : starEach [b] X.env = (false, eval b X.env) :: starEach [] X.env := by rfl) :
    PPS X cl W F0 H0 (.Assign [.Tuple [.Name x px, .Name y py] kt pt] (.Tuple [a, b] k2 pt2) pos) (sParU i j O O2) :=
  PS.imp (ps_asg (pe_tupX (pa_cons ha (pa_cons hb pa_nil h2) h1)) (pg_tup hc (pgs_cons (pg_name hN hi hx hf) (pgs_cons (pg_name hN hj hy hf2) pgs_nil)) hn hst) hs hw h0) fun Dn σ H ⟨F, e, s, h⟩ => by
  obtain ⟨hli, h⟩ := inE_ok h
  obtain ⟨hl, h⟩ := inE_ok h
  refine u_core (R := fun vs H1 => vs.length ≤ sizeLine ∧ QT (fun v H2 => gTup X.K 2 (gCons (gName i) (gCons (gName j) gNil)) v σ H2 Dn.nx) H1 vs) s hli hl h fun u v F3 H3 e3 s3 h3 => ?_
  refine ⟨by simp [sizeLine_eq], fun t o nt od => ⟨t, _, rfl, .inl (.inr ⟨o, upd_same⟩), rfl, _, _, rfl, _, _, rfl, rfl, ?_⟩⟩
  exact h3 _ _ _ (Same.refl _) (s3.grow (Ext.add s3.st.sub nt (.frz o (.tup [u, v]))))
end
end M
namespace M
open PySem PySem.Spec PyProof.Rows L2 SeqAt SrtO

/-! ### < on nested tuples of whole numbers -/
def ltTup (x y : D) : Option D := match isQ x with
  | true => (match isQ y with
    | true => (match okC x y with
      | true => (match lowD x 30 with | true => some (.bl (ltX x y)) | false => none)
      | false => none)
    | false => none)
  | false => none
def ltD2 (x y : D) : Option D := match x with
  | .tup _ => ltTup x y
  | _ => ltD x y
section
variable {X : Cx}
theorem op_ltP2 (hu : X.A.units + 64 < cLine) : OpR X (compareOp .Lt) (rP X.K ltD2) := by
  intro pins s σ H x y v u Q I rx ry h
  obtain ⟨F, a, b, d, sm, ra, rb, e, q⟩ := h
  cases a with
  | tup l =>
    simp only [ltD2, ltTup] at e
    cases q1 : isQ (.tup l) with
    | false => rw [q1] at e; cases e
    | true =>
      rw [q1] at e
      cases q2 : isQ b with
      | false => rw [q2] at e; cases e
      | true =>
        rw [q2] at e
        cases q3 : okC (.tup l) b with
        | false => rw [q3] at e; cases e
        | true =>
          rw [q3] at e
          cases q4 : lowD (.tup l) 30 with
          | false => rw [q4] at e; cases e
          | true =>
            rw [q4] at e
            cases e
            have sb : b.solid = true := by cases b <;> first | rfl | cases q2
            have n1 := Rd.dis I sm (ra.rd rfl) rx q1
            have n2 := Rd.dis I sm (rb.rd sb) ry q2
            have dp := Nat.le_trans (depN (.tup l)) (low_py _ 30 q4)
            exact rcLt (.tup l) b X.A s v u n1 n2 q3 (by omega) X.prog X.w X.xe _ ⟨.bl _, H, I, rfl, ext_same sm q (.bl _)⟩
  | _ => exact op_ltP pins s σ H x y v u Q I rx ry ⟨F, _, b, d, sm, ra, rb, e, q⟩
end
end M
set_option maxHeartbeats 4000000
namespace M
open PySem PySem.Spec PyProof.Rows L2

/-! ### tuple * int -/
theorem tuple_mul1 (l : Addr) (items : Array Value) (n : Nat) (dd : Option Addr) (sl : Array (Option Value)) (x : Int) (u : Tok) (c0 : (decide (x < -(2 ^ 63)) || decide (x ≥ 2 ^ 63)) = false) (c1 : (items.isEmpty || x == 1) = true) :
    Meets (Builtin.«tuple.__mul__» ⟨[.ref l, .int x u], []⟩) (fun _ R s => s.heap.get? l = some { cls := .type "tuple", dict := dd, data := .seq items n, slots := sl } ∧
      R (.ok (.ret (Value.ref l))) s) :=
  .of_wp fun prog w A R s h => by
    obtain ⟨hp, g, d, tk, os⟩ := s
    obtain ⟨hl, h⟩ := h
    have f1 := AutoSeq1.idx_int
    wp_walk using wpAny_loadPart' hl
    repeat (first
      | (refine wpAny_ite_false (decide_eq_false (by rw [c0]; exact Bool.false_ne_true)) ?_; wp_walk using wpAny_loadPart' hl)
      | (refine wpAny_ite_true (decide_eq_true c1) ?_; wp_walk using wpAny_loadPart' hl))
    exact ⟨_, rfl, h⟩
section
variable {X : Cx}
theorem op_repX : OpR X (binaryOp .Mult) (fun x y H Q => ∃ l k xs, x = .ref l ∧ y = .int k ∧ SqT X.K H l xs ∧ xs ≠ [] ∧ 2 ≤ k ∧ k ≤ 1000 ∧ xs.length ≤ 1000 ∧ QT Q H (List.replicate k.toNat xs).flatten) := by
  intro pins s σ H x y v u Q I rx ry h
  obtain ⟨l, k, xs, rfl, rfl, hT, hne, h1, h2, hz, q⟩ := h
  cases rx
  obtain ⟨t, rfl⟩ := ry
  obtain ⟨its, r, ⟨⟨cls, dd, data, sl⟩, ho, hc, n, hd⟩, hs⟩ := I.tuple hT
  simp only at hc hd
  subst hc hd
  have hle : its.length = xs.length := r.length.symm
  have hn : its ≠ [] := fun e => hne (by
    rw [e] at hle
    exact List.eq_nil_of_length_eq_zero hle.symm)
  have hi : its.toArray.isEmpty = false := by
    cases its with
    | nil => exact absurd rfl hn
    | cons a b => rfl
  have hsz0 : its.toArray.size = xs.length := by rw [List.size_toArray, hle]
  have hm : ((its.toArray.size : Nat) : Int) * k ≤ 1000000 := by
    rw [hsz0]
    have a1 : ((xs.length : Nat) : Int) * k ≤ 1000 * k := Int.mul_le_mul_of_nonneg_right (by omega) (by omega)
    omega
  have flen : (List.replicate k.toNat its).flatten.length ≤ sizeLine := by
    rw [PyProof.Rows.lm_len_rep_flat, hle, sizeLine_eq]
    have a1 : k.toNat * xs.length ≤ 1000 * 1000 := Nat.mul_le_mul (by omega) hz
    omega
  have c0 : (decide (k < -(2 ^ 63)) || decide (k ≥ 2 ^ 63)) = false := by
    rw [decide_eq_false (by omega), decide_eq_false (by omega)] <;> rfl
  have c1 : (its.toArray.isEmpty || k == 1) = false := by
    rw [hi, Bool.false_or]
    exact beq_eq_false_iff_ne.mpr (by omega)
  have c2 : (decide (k ≤ 0) || its.toArray.isEmpty) = false := by
    rw [hi, Bool.or_false]
    exact decide_eq_false (by omega)
  have c4 : Builtin.Tuple.tupleTooMany (((its.toArray.size : Nat) : Int) * k) = false := by
    unfold Builtin.Tuple.tupleTooMany
    rw [sizeLine_eq]
    exact decide_eq_false (by omega)
  refine wpAny_binaryOp_repeat_ref (T := "tuple") (U := "int") (by decide) ⟨_, ho, rfl⟩ (fun s' => typeIs_int s' k t) noFill_tuple_mul F.fills_int_mul F.slot_int_rmul repeat_tuple F.slot_int_index.lookup
    (call_meets F.slot_int_rmul (typeIs_int s k t) F.entry_int_rmul (F.args_int_rmul_2 _ _) (int_rmul_tuple k t l its.toArray n dd sl)
      ⟨ho, rfl, ⟨_, ho, rfl⟩, call_meets F.slot_tuple_mul ⟨_, ho, rfl⟩ F.entry_tuple_mul (F.args_tuple_mul_2 _ _) (tuple_mulW l its.toArray n dd sl k t c0 c1 c2 (by omega) c4 (by rw [size_rep, List.size_toArray]; exact flen)) ⟨ho, ?_⟩⟩)
  rw [size_rep]
  obtain ⟨J, hn'⟩ := Inv.tupX I (r.rep k.toNat) (by rw [PyProof.Rows.lm_len_rep_flat, sizeLine_eq]; have a1 : k.toNat * xs.length ≤ 1000 * 1000 := Nat.mul_le_mul (by omega) hz; omega)
  exact ⟨.ref s.heap.objs.size, _, J, rfl, q _ _ hn' rfl⟩
theorem op_rep1 : OpR X (binaryOp .Mult) (fun x y H Q => ∃ l xs, x = .ref l ∧ y = .int 1 ∧ SqT X.K H l xs ∧ Q (.ref l) H) := by
  intro pins s σ H x y v u Q I rx ry h
  obtain ⟨l, xs, rfl, rfl, hT, q⟩ := h
  cases rx
  obtain ⟨t, rfl⟩ := ry
  obtain ⟨its, r, ⟨⟨cls, dd, data, sl⟩, ho, hc, n, hd⟩, hs⟩ := I.tuple hT
  simp only at hc hd
  subst hc hd
  refine wpAny_binaryOp_repeat_ref (T := "tuple") (U := "int") (by decide) ⟨_, ho, rfl⟩ (fun s' => typeIs_int s' 1 t) noFill_tuple_mul F.fills_int_mul F.slot_int_rmul repeat_tuple F.slot_int_index.lookup
    (call_meets F.slot_int_rmul (typeIs_int s 1 t) F.entry_int_rmul (F.args_int_rmul_2 _ _) (int_rmul_tuple 1 t l its.toArray n dd sl)
      ⟨ho, rfl, ⟨_, ho, rfl⟩, call_meets F.slot_tuple_mul ⟨_, ho, rfl⟩ F.entry_tuple_mul (F.args_tuple_mul_2 _ _) (tuple_mul1 l its.toArray n dd sl 1 t (by decide) (by simp)) ⟨ho, ?_⟩⟩)
  exact ⟨.ref l, H, I, rfl, q⟩
end
def tmD (l : List D) (k : Int) : Option D := match k with
  | .ofNat 0 => none
  | .ofNat 1 => some (.tup l)
  | .ofNat (m + 2) => (match Nat.ble (m + 2) 1000 with
    | true => (match Nat.ble l.length 1000 with
      | true => (match l with | [] => none | x :: r => some (.tup (List.replicate (m + 2) (x :: r)).flatten))
      | false => none)
    | false => none)
  | .negSucc _ => none
def mulD2 (x y : D) : Option D := match x with
  | .tup l => (match y with | .int k => tmD l k | _ => none)
  | _ => mulD x y
section
variable {X : Cx}
theorem op_mulP2 : OpR X (binaryOp .Mult) (rP X.K mulD2) := by
  intro pins s σ H x y v u Q I rx ry h
  obtain ⟨F, a, b, d, sm, ra, rb, e, q⟩ := h
  cases a with
  | tup l =>
    cases b with
    | int k =>
      cases ra with
      | @tup pa vs0 _ h1 r1 =>
        cases rb
        simp only [mulD2] at e
        have hq := SqT.sameX sm h1
        match k, e with
        | .ofNat 1, e =>
          cases e
          exact op_rep1 pins s σ H _ _ v u Q I rx ry ⟨_, _, rfl, rfl, hq, ext_same sm q (.of (.tup h1 r1))⟩
        | .ofNat (m + 2), e =>
          simp only [tmD] at e
          cases z1 : Nat.ble (m + 2) 1000 with
          | false => rw [z1] at e; cases e
          | true =>
            rw [z1] at e
            cases z2 : Nat.ble l.length 1000 with
            | false => rw [z2] at e; cases e
            | true =>
              rw [z2] at e
              have hz := Nat.le_of_ble_eq_true z2
              have hk := Nat.le_of_ble_eq_true z1
              match l, e, r1, hz with
              | x :: l, e, r1, hz =>
                cases e
                refine op_repX pins s σ H _ _ v u Q I rx ry ⟨_, _, _, rfl, rfl, hq, fun c => ?_, by simp only [Int.ofNat_eq_natCast]; omega, by simp only [Int.ofNat_eq_natCast]; omega, by rw [← r1.length]; exact hz, fun p o np od => ?_⟩
                · subst c; cases r1
                · have w := Ext.put sm np (.frz o (.tup (List.replicate (Int.ofNat (m + 2)).toNat vs0).flatten))
                  exact q _ _ _ w (.of (.tup (.of od) ((r1.flatRep (m + 2)).same w.f)))
    | _ => cases e
  | _ => exact op_mulP pins s σ H x y v u Q I rx ry ⟨F, _, b, d, sm, ra, rb, e, q⟩
end
end M
namespace M
open PySem PySem.Spec PyProof.Rows L2

/-! ### dict(zip(a, b)) -/
section
variable {prog : Program} {w : World} {A : Around} {E : Value → Shared → Prop} {s : Shared}
structure ZMid2 (h0 : Heap) (z TI TO T : Addr) (cs : List ZA) (k j : Nat) (got : List Value) (h : Heap) : Prop where
  len : got.length = j
  gotx : ∀ (i : Nat) (c : ZA), i < j → cs[i]? = some c → ∃ x, c.xs[k]? = some x ∧ got[i]? = some x
  zz : IsZipHeld h z TI TO T true
  its : ∀ (i : Nat) (c : ZA), cs[i]? = some c → c.its h (if i < j then k + 1 else k)
  sq : ∀ c ∈ cs, c.seq h
  sz : h.objs.size = h0.objs.size
  fr : ∀ c o, c ≠ z → (∀ d ∈ cs, c ≠ d.it) → h0.get? c = some o → h.get? c = some o
theorem zipN_held {z TI TO T : Addr} {cs : List ZA} {f : Bool} {oT : Obj} {k : Nat} {Q : Fin → Shared → Prop} (hh : A.handled = none) (D : ZApart z TI TO cs) (hne : cs ≠ []) (hn : cs.length ≤ 100)
    (hz : IsZipHeld s.heap z TI TO T f) (hT : s.heap.get? T = some oT) (hTI : IsTupV s.heap TI (cs.map fun c => .ref c.it)) (hit : ∀ c ∈ cs, c.its s.heap k) (hsq : ∀ c ∈ cs, c.seq s.heap)
    (hQ : ∀ got h', got.length = cs.length → (∀ (i : Nat) (c : ZA), cs[i]? = some c → ∃ x, c.xs[k]? = some x ∧ got[i]? = some x) → IsZipHeld h' z TI TO T true → (∀ c ∈ cs, c.its h' (k + 1)) → IsTupV h' s.heap.objs.size got →
      h'.objs.size = s.heap.objs.size + 1 → (∀ c o, c ≠ z → (∀ d ∈ cs, c ≠ d.it) → s.heap.get? c = some o → h'.get? c = some o) → Q (.done (.ret (.ref s.heap.objs.size))) { s with heap := h' })
    (hE : (∃ c ∈ cs, c.xs[k]? = none) → ∀ h' e, (∀ c o, c ≠ z → (∀ d ∈ cs, c ≠ d.it) → s.heap.get? c = some o → h'.get? c = some o) → (∃ o, h'.get? e = some o ∧ o.cls = .type "StopIteration") → E (.ref e) { s with heap := h' }) :
    wpAny (model prog w) A (Builtin.«zip.__next__» ⟨[.ref z], []⟩) Q E s := by
  show wpAny _ _ (field (.ref z) 2 >>= _) _ _ _
  refine wpAny_bind (wpAny_field hz rfl (x := .bool false) rfl ?_)
  show wpAny _ _ (field (.ref z) 3 >>= _) _ _ _
  refine wpAny_bind (wpAny_field hz rfl (x := .ref TI) rfl ?_)
  refine wpAny_bind (wpAny_seqItems hTI rfl ?_)
  dsimp only
  have hem : (List.map (fun c : ZA => Value.ref c.it) cs).toArray.isEmpty = false := by
    cases cs with
    | nil => exact absurd rfl hne
    | cons c cs => rfl
  rw [hem]
  simp only [Bool.false_eq_true, if_false]
  try refine wpAny_bind (wpAny_pure ?_)
  show wpAny _ _ (Builtin.SmallTypes.ownedTupleIsFree (.ref z) >>= _) _ _ _
  refine wpAny_bind (wpAny_tupleHeld_zip hz hT fun h₁ hz₁ hs₁ => ?_)
  simp only [Bool.false_eq_true, if_false]
  try refine wpAny_bind (wpAny_pure ?_)
  refine wpAny_bind ?_
  rw [← Array.forIn_toList]
  have m0 : ZMid2 s.heap z TI TO T cs k 0 [] h₁ := {
    len := rfl
    gotx := fun i c hi => absurd hi (Nat.not_lt_zero _)
    zz := hz₁
    its := fun i c hc => (hit c (List.mem_of_getElem? hc)).at fun o e => hs₁.extBut _ _ (D.itz c (List.mem_of_getElem? hc)) e
    sq := fun c hc => (hsq c hc).at fun o e => hs₁.extBut _ _ (D.lz c hc) e
    sz := hs₁.1
    fr := fun c o c1 _ e => hs₁.extBut _ _ c1 e }
  refine wpAny_forIn_list _ (fun rest r s' => ∃ j got h', s' = { s with heap := h' } ∧ r = (none, got.toArray) ∧ j ≤ cs.length ∧ rest = (cs.drop j).map (fun c => Value.ref c.it) ∧ ZMid2 s.heap z TI TO T cs k j got h') _ ?_ ?_ _ _ ⟨0, [], h₁, rfl, rfl, Nat.zero_le _, by simp, m0⟩
  · rintro x rest r s' ⟨j, got, h', rfl, rfl, hj, hrest, m⟩
    have hjl : j < cs.length := by
      rcases Nat.lt_or_eq_of_le hj with z | z
      · exact z
      · rw [z, List.drop_length] at hrest; cases hrest
    obtain ⟨c, hc⟩ : ∃ c, cs[j]? = some c := ⟨_, List.getElem?_eq_getElem hjl⟩
    have hcm := List.mem_of_getElem? hc
    have hdrop : cs.drop j = c :: cs.drop (j + 1) := by
      rw [List.drop_eq_getElem_cons hjl]
      congr 1
      rw [List.getElem?_eq_getElem hjl] at hc
      exact Option.some.inj hc
    rw [hdrop, List.map_cons] at hrest
    injection hrest with hx hrest
    subst hx hrest
    have hci : c.its h' k := by have := m.its j c hc; rwa [if_neg (Nat.lt_irrefl _)] at this
    have hcs := m.sq c hcm
    dsimp only
    refine wpAny_bind (wpAny_holding ?_)
    show wpAny _ _ (Builtin.SmallTypes.nextOf (.ref c.it) >>= _) _ _ _
    cases hxk : c.xs[k]? with
    | none =>
      exact wpAny_bind (nextOf_zaEnd (s := { s with heap := h' }) hh hci hcs hxk fun h₂ e hs₂ he => hE ⟨c, hcm, hxk⟩ h₂ e (fun b o c1 c3 x => hs₂ _ _ (c3 c hcm) (m.fr b o c1 c3 x)) he)
    | some x =>
      refine wpAny_bind (nextOf_za (s := { s with heap := h' }) hci hcs hxk fun h₂ h1₂ hs₂ => wpAny_pure (wpAny_pure ?_))
      replace hs₂ : Heap.SameBut c.it h' h₂ := hs₂
      refine ⟨j + 1, got ++ [x], _, rfl, by simp, hjl, rfl, ?_⟩
      exact {
        len := by rw [List.length_append, m.len]; rfl
        gotx := fun i d hi hd => by
          rcases Nat.lt_or_eq_of_le (Nat.le_of_lt_succ hi) with q | q
          · obtain ⟨y, y1, y2⟩ := m.gotx i d q hd
            exact ⟨y, y1, by rw [List.getElem?_append_left (by rw [m.len]; exact q)]; exact y2⟩
          · subst q
            rw [hc] at hd; cases hd
            exact ⟨x, hxk, by rw [List.getElem?_append_right (by rw [m.len]; exact Nat.le_refl _), m.len, Nat.sub_self]; rfl⟩
        zz := hs₂.extBut _ _ (D.itz c hcm).symm m.zz
        its := fun i d hd => by
          have hdm := List.mem_of_getElem? hd
          by_cases q : i = j
          · subst q
            rw [hc] at hd; cases hd
            rw [if_pos (Nat.lt_succ_self _)]
            exact h1₂
          · have z1 : (if i < j + 1 then k + 1 else k) = if i < j then k + 1 else k := by
              by_cases q2 : i < j
              · rw [if_pos q2, if_pos (by omega)]
              · rw [if_neg q2, if_neg (by omega)]
            rw [z1]
            exact (m.its i d hd).at fun o e => hs₂.extBut _ _ (fun z => q (nodup_at D.nd hd hc z)) e
        sq := fun d hd => (m.sq d hd).at fun o e => hs₂.extBut _ _ (D.lit d hd c hcm) e
        sz := by rw [hs₂.1, m.sz]
        fr := fun b o c1 c3 e => hs₂.extBut _ _ (c3 c hcm) (m.fr b o c1 c3 e) }
  · rintro r s' ⟨j, got, h₅, rfl, rfl, hj, hrest, m⟩
    have hje : j = cs.length := by
      rcases Nat.lt_or_eq_of_le hj with z | z
      · rw [List.drop_eq_getElem_cons z, List.map_cons] at hrest; cases hrest
      · exact z
    subst hje
    dsimp only
    refine wpAny_bind (wpAny_newTuple ?_ (by show got.length ≤ sizeLine; rw [m.len, sizeLine_eq]; omega))
    have hsz := m.sz
    have up : ∀ c o, h₅.get? c = some o → (h₅.push { cls := .type "tuple", data := .seq got.toArray }).get? c = some o := fun c o e => Heap.get?_push_of_some _ e
    have hT₈ : IsTupV (h₅.push { cls := .type "tuple", data := .seq got.toArray }) h₅.objs.size got := Heap.get?_push_size _ rfl
    have hz8 : (h₅.push { cls := .type "tuple", data := .seq got.toArray }).objs.size = h₅.objs.size + 1 := Heap.size_push ..
    rw [hsz] at hT₈ hz8
    refine wpAny_pure ?_
    dsimp only
    rw [hsz]
    refine hQ got _ m.len (fun i c hc => m.gotx i c (List.getElem?_eq_some_iff.mp hc).1 hc) (up _ _ m.zz) (fun c hc => ?_) hT₈ hz8 fun c o c1 c3 e => up c o (m.fr c o c1 c3 e)
    obtain ⟨i, hi⟩ := List.getElem?_of_mem hc
    have := m.its i c hi
    rw [if_pos (List.getElem?_eq_some_iff.mp hi).1] at this
    exact this.at fun o e => up _ o e
theorem pyNext_zipN_held {z TI TO T : Addr} {cs : List ZA} {f : Bool} {oT : Obj} {k : Nat} {Q : Option Value → Shared → Prop} (hh : A.handled = none) (D : ZApart z TI TO cs) (hne : cs ≠ []) (hn : cs.length ≤ 100)
    (hz : IsZipHeld s.heap z TI TO T f) (hT : s.heap.get? T = some oT) (hTI : IsTupV s.heap TI (cs.map fun c => .ref c.it)) (hit : ∀ c ∈ cs, c.its s.heap k) (hsq : ∀ c ∈ cs, c.seq s.heap)
    (hQ : ∀ got h', got.length = cs.length → (∀ (i : Nat) (c : ZA), cs[i]? = some c → ∃ x, c.xs[k]? = some x ∧ got[i]? = some x) → IsZipHeld h' z TI TO T true → (∀ c ∈ cs, c.its h' (k + 1)) → IsTupV h' s.heap.objs.size got →
      h'.objs.size = s.heap.objs.size + 1 → (∀ c o, c ≠ z → (∀ d ∈ cs, c ≠ d.it) → s.heap.get? c = some o → h'.get? c = some o) → Q (some (.ref s.heap.objs.size)) { s with heap := h' })
    (hE : (∃ c ∈ cs, c.xs[k]? = none) → ∀ h', (∀ c o, c ≠ z → (∀ d ∈ cs, c ≠ d.it) → s.heap.get? c = some o → h'.get? c = some o) → Q none { s with heap := h' }) :
    wpAny (model prog w) A (pyNext (.ref z)) Q E s := by
  have hTy : s.TypeIs (.ref z) "zip" := ⟨_, hz, rfl⟩
  unfold pyNext
  refine wpAny_bind (wpAny_attempt (wpAny_callSpecial?_slot (name := Str.ofString "__next__") hTy F.slot_zip_next
    (wpAny_call_entry F.slot_zip_next hTy F.entry_zip_next (zipN_held hh D hne hn hz hT hTI hit hsq (fun got h' a1 a2 a3 a4 a5 a6 a7 => ⟨_, rfl, wpAny_pure (hQ got h' a1 a2 a3 a4 a5 a6 a7)⟩) fun c h' e hk he => ?_) (F.args_zip_next_1 _))))
  obtain ⟨o, ho, hc⟩ := he
  refine wpAny_bind (wpAny_isInstance (T := "StopIteration") (b := true) ⟨o, ho, hc⟩ isSubtype_stop ?_)
  exact wpAny_pure (hE c h' hk)
end
theorem zArg (prog : Program) (w : World) {z TI TO : Addr} {c1 c2 : ZA} (D : ZApart z TI TO [c1, c2]) :
    PairArg prog w "zip" z [z, TI, TO, c1.it, c2.it, c1.l, c2.l] [z, TO, c1.it, c2.it] (min c1.xs.size c2.xs.size) (fun i k v => c1.xs[i]? = some k ∧ c2.xs[i]? = some v)
      (fun h => IsZip h z TI TO .none ∧ IsTupV h TI ([c1, c2].map fun c => .ref c.it) ∧ (∃ ov, ov.length = 2 ∧ IsTupV h TO ov) ∧ c1.its h 0 ∧ c2.its h 0 ∧ c1.seq h ∧ c2.seq h) where
  type := fun s ok => ⟨_, ok.1, rfl⟩
  notDict := by decide
  keep := fun h h' ok hk => by
    obtain ⟨hz, hTI, ⟨ov, hl, hTO⟩, h1, h2, hl1, hl2⟩ := ok
    exact ⟨hk _ _ hz, hk _ _ hTI, ⟨ov, hl, hk _ _ hTO⟩, h1.at fun o e => hk _ o e, h2.at fun o e => hk _ o e, hl1.at fun o e => hk _ o e, hl2.at fun o e => hk _ o e⟩
  there := fun h ok b hb => by
    obtain ⟨hz, hTI, ⟨ov, hl, hTO⟩, h1, h2, hl1, hl2⟩ := ok
    obtain ⟨o1, e1, _⟩ := h1.obj
    obtain ⟨o2, e2, _⟩ := h2.obj
    have s1 : ∃ o, h.get? c1.l = some o := by
      obtain ⟨t, it, l, xs⟩ := c1
      cases t <;> (obtain ⟨o, e, _⟩ := hl1; exact ⟨o, e⟩)
    have s2 : ∃ o, h.get? c2.l = some o := by
      obtain ⟨t, it, l, xs⟩ := c2
      cases t <;> (obtain ⟨o, e, _⟩ := hl2; exact ⟨o, e⟩)
    simp only [List.mem_cons, List.not_mem_nil, or_false] at hb
    rcases hb with rfl | rfl | rfl | rfl | rfl | rfl | rfl
    all_goals first | exact ⟨_, hz⟩ | exact ⟨_, hTI⟩ | exact ⟨_, hTO⟩ | exact ⟨_, e1⟩ | exact ⟨_, e2⟩ | exact s1 | exact s2
  sub := fun b hb => by simp at hb ⊢; rcases hb with rfl | rfl | rfl | rfl <;> simp
  noKeys := fun A s Q E hA ok h => getAttrOr_miss_zip ok.1 rfl rfl rfl zip_no_keys (by decide +kernel) hA h
  iter := fun A s d Q E hA ok hd hdf h => by
    obtain ⟨hz, hTI, ⟨ov, hov, hTO⟩, h1, h2, hl1, hl2⟩ := ok
    simp only [List.mem_cons, List.not_mem_nil, or_false, not_or] at hdf
    obtain ⟨dz, dTI, dTO, di1, di2, dl1, dl2⟩ := hdf
    have m1 : c1 ∈ [c1, c2] := by simp
    have m2 : c2 ∈ [c1, c2] := by simp
    refine wpAny_pyIter_zip hz (h z [z, TO, c1.it, c2.it] (fun i h => IsTupV h TI ([c1, c2].map fun c => .ref c.it) ∧ c1.its h i ∧ c2.its h i ∧ c1.seq h ∧ c2.seq h ∧
      ((IsZip h z TI TO .none ∧ ∃ ov, ov.length = 2 ∧ IsTupV h TO ov) ∨ ∃ T f oT, IsZipHeld h z TI TO T f ∧ h.get? T = some oT ∧ T ≠ z ∧ T ≠ c1.it ∧ T ≠ c2.it ∧ T ≠ d)) s.heap s.toks ?_
      ⟨hTI, h1, h2, hl1, hl2, .inl ⟨hz, ov, hov, hTO⟩⟩ (fun _ _ e => e) fun b hb => .inl hb)
    exact {
      off := fun hm => by
        simp only [List.mem_cons, List.not_mem_nil, or_false] at hm
        rcases hm with e | e | e | e
        · exact dz e
        · exact dTO e
        · exact di1 e
        · exact di2 e
      frame := fun i h₁ h₂ st hk => by
        obtain ⟨hTI, h1, h2, hl1, hl2, hz⟩ := st
        refine ⟨hk _ _ (Ne.symm dTI) hTI, h1.at fun o e => hk _ o (Ne.symm di1) e, h2.at fun o e => hk _ o (Ne.symm di2) e, hl1.at fun o e => hk _ o (Ne.symm dl1) e, hl2.at fun o e => hk _ o (Ne.symm dl2) e, ?_⟩
        rcases hz with ⟨hz, ov, hov, hTO⟩ | ⟨T, f, oT, hz, hT, r1, r2, r3, r4⟩
        · exact .inl ⟨hk _ _ (Ne.symm dz) hz, ov, hov, hk _ _ (Ne.symm dTO) hTO⟩
        · exact .inr ⟨T, f, oT, hk _ _ (Ne.symm dz) hz, hk _ _ r4 hT, r1, r2, r3, r4⟩
      item := fun i s₁ Q₁ E₁ hi st hds hQ => by
        obtain ⟨hTI, h1, h2, hl1, hl2, hz⟩ := st
        have hix : i < c1.xs.size := Nat.lt_of_lt_of_le hi (Nat.min_le_left ..)
        have hiy : i < c2.xs.size := Nat.lt_of_lt_of_le hi (Nat.min_le_right ..)
        have lt : ∀ {c o}, s₁.heap.get? c = some o → s₁.heap.objs.size ≠ c := fun e => Nat.ne_of_gt (Heap.lt_size e)
        have n1 : s₁.heap.objs.size ≠ c1.it := by obtain ⟨_, e, _⟩ := h1.obj; exact lt e
        have n2 : s₁.heap.objs.size ≠ c2.it := by obtain ⟨_, e, _⟩ := h2.obj; exact lt e
        have nex : ¬ ∃ c ∈ [c1, c2], c.xs[i]? = none := by
          rintro ⟨c, hc, e⟩
          simp only [List.mem_cons, List.not_mem_nil, or_false] at hc
          rcases hc with rfl | rfl
          · rw [Array.getElem?_eq_getElem hix] at e; cases e
          · rw [Array.getElem?_eq_getElem hiy] at e; cases e
        have its : ∀ c ∈ [c1, c2], c.its s₁.heap i := fun c hc => by
          simp only [List.mem_cons, List.not_mem_nil, or_false] at hc
          rcases hc with rfl | rfl
          · exact h1
          · exact h2
        have sqs : ∀ c ∈ [c1, c2], c.seq s₁.heap := fun c hc => by
          simp only [List.mem_cons, List.not_mem_nil, or_false] at hc
          rcases hc with rfl | rfl
          · exact hl1
          · exact hl2
        have two : ∀ got : List Value, got.length = 2 → (∀ (j : Nat) (c : ZA), [c1, c2][j]? = some c → ∃ x, c.xs[i]? = some x ∧ got[j]? = some x) → ∃ x y, got = [x, y] ∧ c1.xs[i]? = some x ∧ c2.xs[i]? = some y := fun got hl hg => by
          match got, hl with
          | [x, y], _ =>
            obtain ⟨x', a1, a2⟩ := hg 0 c1 rfl
            obtain ⟨y', b1, b2⟩ := hg 1 c2 rfl
            cases a2
            cases b2
            exact ⟨x, y, rfl, a1, b1⟩
        rcases hz with ⟨hz, ov, hov, hTO⟩ | ⟨T, f, oT, hz, hT, r1, r2, r3, r4⟩
        · have nz : s₁.heap.objs.size ≠ z := lt hz
          refine pyNext_zipN hA D (by simp) (by simp) hz hTI hov hTO its sqs (fun got h' g1 g2 z' TO' its' hT' hsz hk => ?_) fun c => absurd c nex
          obtain ⟨x, y, rfl, e1, e2⟩ := two got g1 g2
          have fr : ∀ c o, c ≠ z → c ≠ TO → c ≠ c1.it → c ≠ c2.it → s₁.heap.get? c = some o → h'.get? c = some o := fun c o q1 q2 q3 q4 e => hk c o q1 q2 (fun d hd => by
            simp only [List.mem_cons, List.not_mem_nil, or_false] at hd
            rcases hd with rfl | rfl
            · exact q3
            · exact q4) e
          refine hQ s₁.heap.objs.size x y h' s₁.toks ⟨e1, e2⟩ (.inl ⟨_, hT', rfl, _, rfl⟩) ⟨fr _ _ D.TIz D.TITO (fun q => D.itTI c1 m1 q.symm) (fun q => D.itTI c2 m2 q.symm) hTI, its' c1 m1, its' c2 m2,
            hl1.at fun o e => fr _ o (D.lz c1 m1) (D.lTO c1 m1) (D.lit c1 m1 c1 m1) (D.lit c1 m1 c2 m2) e, hl2.at fun o e => fr _ o (D.lz c2 m2) (D.lTO c2 m2) (D.lit c2 m2 c1 m1) (D.lit c2 m2 c2 m2) e, .inr ⟨s₁.heap.objs.size, false, _, z', hT', nz, n1, n2, Nat.ne_of_gt hds⟩⟩ fun b o hb e => ?_
          simp only [List.mem_cons, List.not_mem_nil, or_false, not_or] at hb
          exact fr b o hb.1 hb.2.1 hb.2.2.1 hb.2.2.2 e
        · have nz : s₁.heap.objs.size ≠ z := lt hz
          refine pyNext_zipN_held hA D (by simp) (by simp) hz hT hTI its sqs (fun got h' g1 g2 z' its' hT' hsz hk => ?_) fun c => absurd c nex
          obtain ⟨x, y, rfl, e1, e2⟩ := two got g1 g2
          have fr : ∀ c o, c ≠ z → c ≠ c1.it → c ≠ c2.it → s₁.heap.get? c = some o → h'.get? c = some o := fun c o q1 q3 q4 e => hk c o q1 (fun d hd => by
            simp only [List.mem_cons, List.not_mem_nil, or_false] at hd
            rcases hd with rfl | rfl
            · exact q3
            · exact q4) e
          refine hQ s₁.heap.objs.size x y h' s₁.toks ⟨e1, e2⟩ (.inl ⟨_, hT', rfl, _, rfl⟩) ⟨fr _ _ D.TIz (fun q => D.itTI c1 m1 q.symm) (fun q => D.itTI c2 m2 q.symm) hTI, its' c1 m1, its' c2 m2,
            hl1.at fun o e => fr _ o (D.lz c1 m1) (D.lit c1 m1 c1 m1) (D.lit c1 m1 c2 m2) e, hl2.at fun o e => fr _ o (D.lz c2 m2) (D.lit c2 m2 c1 m1) (D.lit c2 m2 c2 m2) e, .inr ⟨T, true, _, z', fr _ _ r1 r2 r3 hT, r1, r2, r3, r4⟩⟩ fun b o hb e => ?_
          simp only [List.mem_cons, List.not_mem_nil, or_false, not_or] at hb
          exact fr b o hb.1 hb.2.2.1 hb.2.2.2 e
      done := fun s₁ Q₁ E₁ st hQ => by
        obtain ⟨hTI, h1, h2, hl1, hl2, hz⟩ := st
        have its : ∀ c ∈ [c1, c2], c.its s₁.heap (min c1.xs.size c2.xs.size) := fun c hc => by
          simp only [List.mem_cons, List.not_mem_nil, or_false] at hc
          rcases hc with rfl | rfl
          · exact h1
          · exact h2
        have sqs : ∀ c ∈ [c1, c2], c.seq s₁.heap := fun c hc => by
          simp only [List.mem_cons, List.not_mem_nil, or_false] at hc
          rcases hc with rfl | rfl
          · exact hl1
          · exact hl2
        have no : ∀ got : List Value, (∀ (j : Nat) (c : ZA), [c1, c2][j]? = some c → ∃ x, c.xs[min c1.xs.size c2.xs.size]? = some x ∧ got[j]? = some x) → False := fun got hg => by
          obtain ⟨x', a1, _⟩ := hg 0 c1 rfl
          obtain ⟨y', b1, _⟩ := hg 1 c2 rfl
          have := (Array.getElem?_eq_some_iff.mp a1).1
          have := (Array.getElem?_eq_some_iff.mp b1).1
          omega
        rcases hz with ⟨hz, ov, hov, hTO⟩ | ⟨T, f, oT, hz, hT, r1, r2, r3, r4⟩
        · refine pyNext_zipN hA D (by simp) (by simp) hz hTI hov hTO its sqs (fun got h' g1 g2 _ _ _ _ _ _ => (no got g2).elim) fun c h' hk => hQ h' s₁.toks fun b o hb e => ?_
          simp only [List.mem_cons, List.not_mem_nil, or_false, not_or] at hb
          exact hk b o hb.1 hb.2.1 (fun d hd => by
            simp only [List.mem_cons, List.not_mem_nil, or_false] at hd
            rcases hd with rfl | rfl
            · exact hb.2.2.1
            · exact hb.2.2.2) e
        · refine pyNext_zipN_held hA D (by simp) (by simp) hz hT hTI its sqs (fun got h' g1 g2 _ _ _ _ _ => (no got g2).elim) fun c h' hk => hQ h' s₁.toks fun b o hb e => ?_
          simp only [List.mem_cons, List.not_mem_nil, or_false, not_or] at hb
          exact hk b o hb.1 (fun d hd => by
            simp only [List.mem_cons, List.not_mem_nil, or_false] at hd
            rcases hd with rfl | rfl
            · exact hb.2.2.1
            · exact hb.2.2.2) e }
end M
namespace M
open PySem PySem.Spec PyProof.Rows L2

/-! ### dicts out of pairs -/
def mrgK : List D → List D → List D → List D → List D × List D
  | ka, da, [], _ => (ka, da)
  | ka, da, k :: ks, l => (match l with
    | [] => (ka, da)
    | d :: ds => (match stoK k d ka da with | (a, b) => mrgK a b ks ds))
def mrgE : DE → DE → DE
  | acc, [] => acc
  | acc, e :: E => mrgE (stoE acc e.1 e.2.1 e.2.2) E
def allK : List D → Bool
  | [] => true
  | k :: l => (match kOk k with | true => allK l | false => false)
theorem allK_cons {k : D} {l : List D} (h : allK (k :: l) = true) : kOk k = true ∧ allK l = true := by
  simp only [allK] at h
  cases q : kOk k with
  | false => rw [q] at h; cases h
  | true => rw [q] at h; exact ⟨rfl, h⟩
theorem xs_all : ∀ {E0 : DE} {us : List Value} {acc : DE} {vs : List Value}, Vals (acc.map (·.2.2)) vs → Vals (E0.map (·.2.2)) us → (∀ e ∈ acc, isQ e.1 = true) → (∀ e ∈ E0, isQ e.1 = true) →
    ∃ vs', Vals ((mrgE acc E0).map (·.2.2)) vs' ∧ storedAllH (xsOf acc vs) (xsOf E0 us) = xsOf (mrgE acc E0) vs'
  | [], _, acc, vs, r, .nil, _, _ => ⟨vs, r, rfl⟩
  | e :: E0, _, acc, vs, r, .cons (b := u) (l₂ := us) r1 rt, ha, h0 => by
    have hk := h0 e List.mem_cons_self
    obtain ⟨vs1, h1, h2⟩ := xs_sto hk r1 e.2.1 r ha
    obtain ⟨vs2, h3, h4⟩ := xs_all (E0 := E0) (us := us) h1 rt (sto_mem (p := fun d => isQ d = true) hk ha) fun x hx => h0 x (List.mem_cons_of_mem _ hx)
    refine ⟨vs2, h3, ?_⟩
    show storedAllH (storedH (xsOf acc vs) (toN e.1) e.2.1 u) (xsOf E0 us) = _
    rw [h2, h4]
    rfl
theorem mrg_rd {K : PySem.W.Frag} {F : Hp} : ∀ {E0 : DE} {k0 d0 : List D} {acc : DE} {ka da : List D}, RdE K F acc ka da → RdE K F E0 k0 d0 → RdE K F (mrgE acc E0) (mrgK ka da k0 d0).1 (mrgK ka da k0 d0).2
  | _, _, _, _, _, _, ra, .nil => ra
  | _, _, _, _, _, _, ra, .cons (k := k) (d := d) rk rd t => by
    have s := RdE.sto rk rd ra
    simp only [mrgE, mrgK]
    exact mrg_rd s t
theorem mrg_nd : ∀ {E0 acc : DE}, (∀ e ∈ acc, isQ e.1 = true) → (∀ e ∈ E0, isQ e.1 = true) → (acc.map (·.1)).Nodup → ((mrgE acc E0).map (·.1)).Nodup
  | [], _, _, _, n => n
  | e :: E0, acc, ha, h0, n => mrg_nd (E0 := E0) (sto_mem (p := fun d => isQ d = true) (h0 e List.mem_cons_self) ha) (fun x hx => h0 x (List.mem_cons_of_mem _ hx)) (sto_fst (h0 e List.mem_cons_self) e.2.1 e.2.2 ha n)
theorem mrg_mem {p : D → Prop} : ∀ {E0 acc : DE}, (∀ e ∈ acc, p e.1) → (∀ e ∈ E0, p e.1) → ∀ e ∈ mrgE acc E0, p e.1
  | [], _, ha, _ => ha
  | e :: E0, acc, ha, h0 => mrg_mem (E0 := E0) (sto_mem (h0 e List.mem_cons_self) ha) fun x hx => h0 x (List.mem_cons_of_mem _ hx)
theorem mrg_len : ∀ (E0 acc : DE), (mrgE acc E0).length ≤ acc.length + E0.length
  | [], acc => Nat.le_refl _
  | e :: E0, acc => by
    have h1 := mrg_len E0 (stoE acc e.1 e.2.1 e.2.2)
    have h2 := sto_len e.1 e.2.1 e.2.2 acc
    show (mrgE (stoE acc e.1 e.2.1 e.2.2) E0).length ≤ _
    rw [List.length_cons]
    omega
/-- the entries that two sequences give -/
theorem mk_ent {K : PySem.W.Frag} {F : Hp} : ∀ {a b : List D} {va vb : List V} {xa xb : List Value}, RdL K F a va → RdL K F b vb → Vals va xa → Vals vb xb → allK a = true →
    ∃ (E0 : DE) (us : List Value) (k0 d0 : List D), RdE K F E0 k0 d0 ∧ Vals (E0.map (·.2.2)) us ∧ E0.length = min xa.length xb.length ∧ (∀ ka da, mrgK ka da k0 d0 = mrgK ka da a b) ∧ (∀ e ∈ E0, kOk e.1 = true) ∧
      ∀ (i : Nat) (key v : Value), xa[i]? = some key → xb[i]? = some v → ∃ k bb, (xsOf E0 us)[i]? = some (k, bb, v) ∧ key = .ref bb
  | [], b, _, vb, _, xb, .nil, _, .nil, _, _ => ⟨[], [], [], [], .nil, .nil, by simp, fun ka da => by simp [mrgK], (fun _ h => (nomatch h)), fun i key v h => by simp at h⟩
  | k :: a, [], _, _, _, _, .cons _ _, .nil, .cons _ _, .nil, _ => ⟨[], [], [], [], .nil, .nil, by simp, fun ka da => by simp [mrgK], (fun _ h => (nomatch h)), fun i key v _ h => by simp at h⟩
  | k :: a, d :: b, _, _, _, _, .cons (v := kv) rk ra, .cons (v := dv) rd rb, .cons (b := ku) rku rva, .cons (b := du) rdu rvb, h => by
    obtain ⟨hk, ha⟩ := allK_cons h
    obtain ⟨E0, us, k0, d0, i1, i2, i3, i4, i5, i6⟩ := mk_ent ra rb rva rvb ha
    obtain ⟨_, _, l, rfl⟩ := kOk_ok hk
    cases rk with
    | @tup p vs _ t1 t2 =>
      cases rku
      refine ⟨(.tup l, p, dv) :: E0, du :: us, .tup l :: k0, d :: d0, .cons (.tup t1 t2) rd i1, .cons rdu i2, ?_, fun ka da => ?_, fun e he => ?_, fun i key v h1 h2 => ?_⟩
      · rw [List.length_cons, List.length_cons, List.length_cons, i3]; omega
      · simp only [mrgK]
        exact i4 _ _
      · rcases List.mem_cons.mp he with rfl | he
        · exact hk
        · exact i5 e he
      · cases i with
        | zero => cases h1; cases h2; exact ⟨_, p, rfl, rfl⟩
        | succ i => exact i6 i key v h1 h2
section
variable {X : Cx} {pins : List (Addr × Obj)} {σ : L2.St} {F H : Hp} {s s0 : Shared}
/-- behind dict(..): the new dict -/
theorem dict_done {k0 d0 : List D} {E0 : DE} {us : List Value} {h' : Heap} {p : Addr} (rE : RdE X.K F E0 k0 d0) (hk : ∀ e ∈ E0, kOk e.1 = true) (rv : Vals (E0.map (·.2.2)) us) (hl : E0.length ≤ 900000) (hp : (p == sysModules) = false)
    (dd : h'.DictOfH (nestedKind X.prog X.w) p (storedAllH [] (xsOf E0 us))) : ObjOk X.prog X.w (upd H p (DctO p (mrgE [] E0))) h' p (DctO p (mrgE [] E0)) ∧ RdE X.K F (mrgE [] E0) (mrgK [] [] k0 d0).1 (mrgK [] [] k0 d0).2 := by
  have q : ∀ e ∈ E0, isQ e.1 = true := fun e he => (kOk_ok (hk e he)).1
  obtain ⟨vs', h1, h2⟩ := xs_all (acc := []) (vs := []) .nil rv (fun _ h => nomatch h) q
  rw [show (xsOf [] ([] : List Value)) = [] from rfl] at h2
  rw [h2] at dd
  refine ⟨dct_new hp (Nat.le_trans (mrg_len E0 []) (by simpa using hl)) (mrg_nd (fun _ h => nomatch h) q List.nodup_nil) (mrg_mem (p := fun d => isQ d = true ∧ (toN d).depth ≤ 8 ∧ ∃ l, d = .tup l) (fun _ h => nomatch h) fun e he => kOk_ok (hk e he)) h1 dd, mrg_rd .nil rE⟩
end
def dzD (l : List D) : Option (List D × List D) := match l with
  | [d, d2] => (match frzOf d with
    | some a => (match frzOf d2 with
      | some b => (match allK a with
        | true => (match Nat.ble a.length 900000 with | true => some (mrgK [] [] a b) | false => none)
        | false => none)
      | none => none)
    | none => none)
  | _ => none
def uDz (L : CA) : CU := fun e => (L e).bind fun l => match dzD l with
  | some (ks, vs) => .ok (.owd ks vs)
  | none => .bad
def rDz (K : PySem.W.Frag) : List V → Hp → VK → Prop := fun vs H Q => ∃ F d d2 a b v1 v2, vs = [v1, v2] ∧ Same F H ∧ Rd K F d v1 ∧ Rd K F d2 v2 ∧ frzOf d = some a ∧ frzOf d2 = some b ∧ allK a = true ∧ a.length ≤ 900000 ∧
  ∀ p E, H p = none → RdE K F E (mrgK [] [] a b).1 (mrgK [] [] a b).2 → Q (.ref p) (upd H p (DctO p E))
section
variable {X : Cx} {a b : Expr} {ta : TA} {p p2 pos pos2 : Pos}
theorem pe_dzip (hc : X.calm = true) (hu : X.A.units + 64 < cLine) (hg : Gl X "dict") (hm : X.mg "dict" = none) (hg2 : Gl X "zip") (hm2 : X.mg "zip" = none) (ha : PA X [a, b] ta)
    (hs : starEach [a, b] X.env = (false, eval a X.env) :: starEach [b] X.env := by rfl) (hpl : (backTo pos2 (starEach [b] X.env)).any (·.1) = false := by rfl)
    (hs2 : starEach [.Call (.Name "zip" p2) [a, b] [] pos2] X.env = (false, eval (.Call (.Name "zip" p2) [a, b] [] pos2) X.env) :: starEach [] X.env := by rfl) (hpl2 : (backTo pos (starEach [] X.env)).any (·.1) = false := by rfl)
    (htr : backTo pos (starEach [.Call (.Name "zip" p2) [a, b] [] pos2] X.env) = [(false, eval (.Call (.Name "zip" p2) [a, b] [] pos2) X.env)] := by rfl) :
    PE X (.Call (.Name "dict" p) [.Call (.Name "zip" p2) [a, b] [] pos2] [] pos) (fun σ H Q => ta σ H fun vs H1 => rDz X.K vs H1 Q) := by
  refine ⟨fun pins s σ H Q I h => ?_⟩
  refine Call_ (ld_blt I hg hm PyProof.Rows.boot_dict (PyProof.Rows.callWith_type1 ?_ hs2 hpl2))
  rw [htr]
  refine Calls.spliced_cons ?_
  refine Call_ (ld_blt I hg2 hm2 PyProof.Rows.boot_zip (PyProof.Rows.callWith_type1 (thn (ha.run pos2 pins s σ H _ I h) fun us s1 ⟨vs, H1, I1, r1, q1⟩ => ?_) hs hpl))
  obtain ⟨F, d, d2, la, lb, v1, v2, rfl, sm, rd1, rd2, f1, f2, ak, al, q⟩ := q1
  cases r1 with
  | @cons _ u1 _ _ ru1 rt => cases rt with | @cons _ u2 _ _ ru2 rn =>
    cases rn
    obtain ⟨c1, va, rfl, ra, sq1⟩ := rd_frz rd1 f1
    obtain ⟨c2, vb, rfl, rb, sq2⟩ := rd_frz rd2 f2
    cases ru1
    cases ru2
    obtain ⟨cs', hcore, hp⟩ := sqs_za I1 (cs := [c1, c2]) (vss := [va, vb]) (.cons (sq1 F H1 (Same.refl _) sm) (.cons (sq2 F H1 (Same.refl _) sm) .nil))
    cases hp with
    | @cons e1 _ _ _ p1 pt => cases pt with | @cons e2 _ _ _ p2 pn =>
      cases pn
      simp only [List.map_cons, List.map_nil, List.cons.injEq, and_true] at hcore
      have k1 : c1.l = e1.l := (congrArg (·.2.2) hcore.1).symm
      have k2 : c2.l = e2.l := (congrArg (·.2.2) hcore.2).symm
      rw [k1, k2]
      obtain ⟨E0, us, k0, d0, i1, i2, i3, i4, i5, i6⟩ := mk_ent ra rb p1.1 p2.1 ak
      refine call_zip2 p1.2 p2.2 fun h' z TI TO cs2 ecs N hfr hk => Calls.spliced_nil ?_
      subst ecs
      have I2 : Inv X pins σ H1 { s1 with heap := h' } := I1.kept (t' := s1.toks) hk
      have g1 := N.its (putIt e1 s1.heap.objs.size) (by simp)
      have g2 := N.its (putIt e2 (s1.heap.objs.size + 1)) (by simp)
      have old : ∀ b o, s1.heap.get? b = some o → b ∉ [z, TO, (putIt e1 s1.heap.objs.size).it, (putIt e2 (s1.heap.objs.size + 1)).it] := fun b o e hb => by
        have hlt := Heap.lt_size e
        have : s1.heap.objs.size ≤ b := hfr b (by
          simp only [List.mem_cons, List.not_mem_nil, or_false] at hb
          rcases hb with rfl | rfl | rfl | rfl <;> simp)
        exact absurd hlt (Nat.not_lt.mpr this)
      have hl1 := p1.1.length
      have hl2 := p2.1.length
      have hla := ra.length
      refine call_dict_pairsH (A := X.A) (s := { s1 with heap := h' }) (knd := nestedKind X.prog X.w) (ps := xsOf E0 us) (zArg X.prog X.w N.ap) (I.ok.hd hc) (by show X.A.units + 1 + 1 + 8 < cLine; omega)
        ⟨N.zz, N.ti, (by obtain ⟨ov, h1, h2⟩ := N.to; exact ⟨ov, h1, h2⟩), g1, g2, p1.2.at fun o e => hk _ o e, p2.2.at fun o e => hk _ o e⟩ ⟨?_, fun i key v hr => ?_⟩ (fun h2 hk2 x hx => ?_) ?_ fun h2 tk dd hk2 => ?_
      · unfold xsOf
        rw [List.length_zipWith]
        have hv := i2.length
        rw [List.length_map] at hv
        rw [← hv, Nat.min_self, i3]
        simp only [putIt, Array.length_toList]
      · obtain ⟨k, bb, x1, x2⟩ := i6 i key v (by simpa [putIt] using hr.1) (by simpa [putIt] using hr.2)
        exact ⟨k, bb, x1, x2⟩
      · obtain ⟨e, he, q1, q2⟩ := xs_mem hx
        obtain ⟨bb, z1, z2, z3⟩ := key_at I1 sm (i1.key e he) (u := .ref e.2.1) rfl (kOk_ok (i5 e he))
        cases z1
        rw [q1, q2]
        refine ⟨NestedIs.at (fun b o vs n e3 _ => hk2 b o (fun q => ?_) (old b o e3) (hk b o e3)) _ _ z3.1, z3.2⟩
        have := Heap.lt_size (hk b o e3)
        rw [q] at this
        exact Nat.lt_irrefl _ this
      · simp only [putIt]
        have := sizeLine_eq
        have h3 : e1.xs.size = e1.xs.toList.length := Array.length_toList.symm
        omega
      · have hE : E0.length ≤ 900000 := by rw [i3]; omega
        have big : ((({ s1 with heap := h' } : Shared).heap.objs.size) == sysModules) = false := beq_eq_false_iff_ne.mpr (Ne.symm (Nat.ne_of_lt I2.big))
        obtain ⟨ob, rM⟩ := dict_done (F := F) (H := H1) i1 i5 i2 hE big dd
        rw [i4] at rM
        have hn : H1 ({ s1 with heap := h' } : Shared).heap.objs.size = none := I2.hok.fresh (Nat.le_refl _)
        have keep : ∀ b o, s1.heap.get? b = some o → h2.get? b = some o := fun b o e => hk2 b o (old b o e) (hk b o e)
        have hg0 : s1.heap.get? h'.objs.size = none := by
          cases y : s1.heap.get? h'.objs.size with
          | none => rfl
          | some o => exact absurd (Heap.lt_size (hk _ _ y)) (Nat.lt_irrefl _)
        exact ⟨.ref h'.objs.size, _, I1.laidN (t' := tk) keep hg0 hn ob, rfl, q _ _ hn rM⟩
end
section
variable {X : Cx} {cl : Nat → Value} {W : WX} {a b : Expr} {L : CA} {p p2 pos pos2 : Pos}
theorem ppu_dzip (hc : X.calm = true) (hu : X.A.units + 64 < cLine) (hg : Gl X "dict") (hm : X.mg "dict" = none) (hg2 : Gl X "zip") (hm2 : X.mg "zip" = none) (ha : PPA X cl W [a, b] L)
    (hs : starEach [a, b] X.env = (false, eval a X.env) :: starEach [b] X.env := by rfl) (hpl : (backTo pos2 (starEach [b] X.env)).any (·.1) = false := by rfl)
    (hs2 : starEach [.Call (.Name "zip" p2) [a, b] [] pos2] X.env = (false, eval (.Call (.Name "zip" p2) [a, b] [] pos2) X.env) :: starEach [] X.env := by rfl) (hpl2 : (backTo pos (starEach [] X.env)).any (·.1) = false := by rfl)
    (htr : backTo pos (starEach [.Call (.Name "zip" p2) [a, b] [] pos2] X.env) = [(false, eval (.Call (.Name "zip" p2) [a, b] [] pos2) X.env)] := by rfl) :
    PPU X cl W (.Call (.Name "dict" p) [.Call (.Name "zip" p2) [a, b] [] pos2] [] pos) (uDz L) :=
  PE.imp (pe_dzip hc hu hg hm hg2 hm2 ha hs hpl hs2 hpl2 htr) fun σ H Q ⟨F, e, st, h⟩ => by
    refine ⟨F, e, st, ?_⟩
    unfold uDz at h
    cases q : L e with
    | exc c => rw [q] at h; exact h
    | bad => rw [q] at h; exact h
    | ok l =>
      rw [q] at h
      intro F' H' vs x r
      simp only [Res.bind] at h
      match l, r with
      | [d, d2], .cons r1 (.cons r2 .nil) =>
        simp only [dzD] at h
        cases q1 : frzOf d with
        | none => rw [q1] at h; exact h.elim
        | some la =>
          cases q2 : frzOf d2 with
          | none => rw [q1, q2] at h; exact h.elim
          | some lb =>
            rw [q1, q2] at h
            simp only at h
            cases q3 : allK la with
            | false => rw [q3] at h; exact h.elim
            | true =>
              rw [q3] at h
              simp only at h
              cases q4 : Nat.ble la.length 900000 with
              | false => rw [q4] at h; exact h.elim
              | true =>
                rw [q4] at h
                simp only at h
                cases zp : mrgK [] [] la lb with
                | mk ks ds =>
                  rw [zp] at h
                  refine ⟨F', d, d2, la, lb, _, _, rfl, x.sub, r1, r2, q1, q2, q3, Nat.le_of_ble_eq_true q4, fun p E np rE => ?_⟩
                  rw [zp] at rE
                  have w := Ext.add x.sub np (DctO p E)
                  have nF : F' p = none := by
                    cases q : F' p with
                    | none => rfl
                    | some o => rw [x.sub _ _ q] at np; cases np
                  exact h F' _ (.ref p) (x.trans w) ⟨p, E, rfl, upd_same, nF, rE⟩ (fun _ b e => by cases e; exact x.h.free np)
      | [], _ => exact h.elim
      | [_], _ => exact h.elim
      | _ :: _ :: _ :: _, _ => exact h.elim
end
end M
namespace M
open PySem PySem.Spec PyProof.Rows L2

/-! ### several clauses, each with its name -/
def dnUn (D : Ends) (i : Nat) : Ends := { nx := fun σ' H' => D.nx (σ'.set i none) H', rt := D.rt, bk := fun σ' H' => D.bk (σ'.set i none) H', ct := fun σ' H' => D.ct (σ'.set i none) H' }
abbrev HT := Value × Nat × (Addr → Value → Option Addr → TS)
def wAsM (K : PySem.W.Frag) (Wout : WX) (D : Ends) : List HT → WX
  | [] => Wout
  | (c, i, ts) :: r => fun cls d σ H => ∃ b, PySem.W.exmOne K cls c = some b ∧ (b = true → ∀ a, H a = none → ts a cls d (dnUn D i) (σ.set i (some (.ref a))) H) ∧ (b = false → wAsM K Wout D r cls d σ H)
inductive HdsAs (X : Cx) : List ExceptHandler → List HT → Prop
  | nil : HdsAs X [] []
  | cons {x n : Str} {c : Value} {i : Nat} {ts : Addr → Value → Option Addr → TS} {b₀ : Stmt} {suite : List Stmt} {np pos' : Pos} {hds : List ExceptHandler} {l : List HT} (hi : X.N[i]? = some n) (hln : X.env.kindOf n = some .local) (hc : Names X x c)
      (hsu : ∀ (a : Addr) (oe : Obj) (cls : Value) (d : Option Addr) (pn : List (Addr × Obj)), Zc cls d oe → (∃ vs, oe.data = .fields vs) → PSs (X.suite a ((a, oe) :: pn)) (b₀ :: suite) (ts a cls d)) (r : HdsAs X hds l) :
      HdsAs X (.ExceptHandler (some (.Name x np)) (some n) (b₀ :: suite) pos' :: hds) ((c, i, ts) :: l)
section
variable {X : Cx} {body : List Stmt} {h₀ : ExceptHandler} {hds : List ExceptHandler} {l : List HT} {pos : Pos} {tb : WX → TS} {Wout : WX}
theorem ps_try_asM (hs : X.stack = X.env :: X.outer) (hf : X.env.frame = some X.env.locals) (hN : X.N.Nodup) (tk : Takes X Wout)
    (hb : ∀ (W : WX) (pn : List (Addr × Obj)) (xe : Value → Shared → Prop), Takes (X.tr pn xe) W → PassesOwn (model X.prog X.w) X.A X.env xe → PSs (X.tr pn xe) body (tb W))
    (hh : HdsAs X (h₀ :: hds) l) : PS X (.Try body (h₀ :: hds) [] [] pos) (fun D σ H => tb (wAsM X.K Wout D l) D σ H) := by
  refine ⟨fun pins s σ H D I h => ?_⟩
  have ok := I.ok
  have hfr : X.A.frames = some (X.env :: X.outer) := by rw [ok.frames, hs]
  refine wpAny_Try_except ?_
  refine wpAny_mono ((hb (wAsM X.K Wout D l) (X.pn ++ pins) (fun e s₁ => wpAny (model X.prog X.w) X.A (noteFrame e X.env) (fun _ s₂ => wpAny (model X.prog X.w) X.A (setFlight e none) (fun _ s₃ =>
    wpAny (model X.prog X.w) X.A (handleBy e X.env (h₀ :: hds)) (SP X pins D) X.xe s₃) X.xe s₂) X.xe s₁) (fun u s' xx => ?_) PassesOwn.looking).run [] s σ H D (I.toTry _) h) (fun f s1 hsp => ?_) (fun e s1 he => he)
  · obtain ⟨a, B, sI, pins', σ', H', cls, d, rfl, J', nb, up, sky, na, os, ag, w⟩ := xx
    have J : Inv X pins σ' H' sI := J'.ofTry ok
    have sky' : Sky B (X.env :: X.outer) a (Zc cls d) X.env.locals s'.heap := by rw [← hs]; exact sky
    show wpAny (model X.prog X.w) X.A (noteFrame (.ref a) X.env) _ _ _
    refine Sky.land Zc.steady hfr hf sky' fun h3 fl3 up3 => ?_
    have J3 : Inv X pins σ' H' { s' with heap := h3 } := J.landed nb fl3.1 (up.trans up3) os ag
    obtain ⟨oe3, vs3, he3, hz3, hd3⟩ := fl3.there
    have nfr : a ∉ frs (X.env :: X.outer) := fun hm => by
      obtain ⟨_, o', e', hnf⟩ := fl3.2.2.1.mem hm
      rw [he3] at e'; cases e'
      exact hnf _ hd3
    have nL : a ≠ X.env.locals := fun z => nfr (List.mem_filterMap.mpr ⟨X.env, List.mem_cons_self, by rw [hf, z]⟩)
    have nF : a ∉ X.fs := fun hm => by
      obtain ⟨e, he, q⟩ := List.mem_filterMap.mp hm
      exact nfr (List.mem_filterMap.mpr ⟨e, List.mem_cons_of_mem _ he, q⟩)
    have S3 := J3.suite he3 hd3 na nL nF
    have go : ∀ {hds' : List ExceptHandler} {l' : List HT}, HdsAs X hds' l' → wAsM X.K Wout D l' cls d σ' H' →
        wpAny (model X.prog X.w) X.A (handleBy (.ref a) X.env hds') (SP X pins D) X.xe { s' with heap := h3 } := by
      intro hds' l' hk
      induction hk with
      | nil =>
        intro w
        refine wpAny_handleBy_nil ?_
        obtain ⟨k1, k2, k3, oe, vs, T, oT, ts', he, hz, hd, h1, hr⟩ := id fl3
        unfold PySem.passOn
        refine wpAny_bind (wpAny_field he hd h1 ?_)
        rw [if_neg (show ¬ ((Value.ref T == Value.none) = true) from by simp)]
        have fin : wpAny (model X.prog X.w) X.A (setFlight (.ref a) X.env.frame) (fun _ s4 => wpAny (model X.prog X.w) X.A (throw (.ref a) : Sem Flow) (SP X pins D) X.xe s4) X.xe { s' with heap := h3 } := by
          rw [hf]
          refine HandSPX.setFlight_upZ fl3 fun h4 hh4 up4 => wpAny_throw (tk _ _ ?_)
          exact ⟨a, B, sI, pins, σ', H', cls, d, rfl, J, nb, (up.trans up3).trans up4, .inr (.inr (by rw [hs]; exact hh4)), na, os, ag, w⟩
        first
          | exact wpAny_bind (wpAny_pure (wpAny_bind fin))
          | exact wpAny_bind fin
      | @cons x n c i ts b₀ suite np pos' hds2 l2 hi hln hc hsu r ih =>
        intro w
        obtain ⟨b, hb1, hyes, hno⟩ := w
        refine wpAny_handleBy_cons (codeAny_handlers_test ?_) (by intro q; cases q)
        have LT : PySem.W.Looks (model X.prog X.w) h3 (typeOf (.ref a)) cls := fun A Q E s k q => wpAny_typeOf_ref (k _ _ he3) (by rw [hz3.1]; exact q)
        have LM := PySem.W.exm_one (M := model X.prog X.w) (J3.kIn) LT hb1
        have test : ∀ {Q : Value → Shared → Prop} {E : Value → Shared → Prop}, Q c { s' with heap := h3 } → wpAny (model X.prog X.w) (X.A.mark (some (.ref a))) (eval (.Name x np) X.env) Q E { s' with heap := h3 } := fun {Q E} q => by
          obtain ⟨hg, hdbg, hm | ⟨hm, hv, hnn⟩⟩ := hc
          · exact ld_glob (X := X.suite a ((a, oe3) :: (X.pn ++ pins))) S3 hg hm q hdbg
          · exact ld_blt (X := X.suite a ((a, oe3) :: (X.pn ++ pins))) S3 hg hm hv q hnn hdbg
        refine test (LM.here ?_)
        cases b with
        | true =>
          refine codeAny_handlers_suite_as ?_
          refine HandSPX.lands_againZ fl3 fun h4 fl4 up4 => ?_
          have J4 : Inv X pins σ' H' { s' with heap := h4 } := J.landed nb fl4.1 ((up.trans up3).trans up4) os ag
          obtain ⟨oe4, vs4, he4, hz4, hd4⟩ := fl4.there
          have S4 := J4.suite he4 hd4 na nL nF
          refine store_ok (X := X.suite a ((a, oe4) :: (X.pn ++ pins))) (v := .ref a) S4 hN hi (.inl hln) rfl (fun s5 S5 => ?_) (.inr hln)
          refine wpAny_mono ((hsu a oe4 cls d (X.pn ++ pins) hz4 ⟨_, hd4⟩).run [] s5 _ H' _ S5 (hyes rfl a na)) (fun f s6 hsp => ?_) (fun _ _ z => False.elim z)
          have end_ : ∀ {σ6 : L2.St} {H6 : Hp} {Q : Shared → Prop}, Inv (X.suite a ((a, oe4) :: (X.pn ++ pins))) [] σ6 H6 s6 → (∀ s7, Inv X pins (σ6.set i none) H6 s7 → Q s7) →
              wpAny (model X.prog X.w) X.A (do bindName X.env n .none; unbindBehindTheSuite X.env n pos') (fun _ s7 => Q s7) X.xe s6 := fun {σ6 H6 Q} S6 hq => gone_ok (S6.unsuite ok) hN hi hln hq
          cases f with
          | next =>
            obtain ⟨σ6, H6, S6, q6⟩ := hsp
            exact end_ S6 fun s7 J7 => ⟨_, _, J7, q6⟩
          | brk =>
            obtain ⟨σ6, H6, S6, q6⟩ := hsp
            exact end_ S6 fun s7 J7 => ⟨_, _, J7, q6⟩
          | cont =>
            obtain ⟨σ6, H6, S6, q6⟩ := hsp
            exact end_ S6 fun s7 J7 => ⟨_, _, J7, q6⟩
          | ret u =>
            obtain ⟨v6, σ6, H6, S6, r6, q6⟩ := hsp
            exact end_ S6 fun s7 J7 => ⟨_, _, _, J7, r6, q6⟩
        | false =>
          show wpAny _ X.A (handleBy (.ref a) X.env hds2) _ _ _
          exact ih (hno rfl)
    exact go hh w
  · cases f with
    | next =>
      obtain ⟨σ', H', J', q⟩ := hsp
      exact wpAny_execs_nil ⟨σ', H', J'.ofTry ok, q⟩
    | brk =>
      obtain ⟨σ', H', J', q⟩ := hsp
      exact ⟨σ', H', J'.ofTry ok, q⟩
    | cont =>
      obtain ⟨σ', H', J', q⟩ := hsp
      exact ⟨σ', H', J'.ofTry ok, q⟩
    | ret u =>
      obtain ⟨v, σ', H', J', r, q⟩ := hsp
      exact ⟨v, σ', H', J'.ofTry ok, r, q⟩
end
/-! closures -/
abbrev HC := List ((Nat → Bool) × (Nat → CS))
def hdlC (c : Nat) (e : En) : HC → RS
  | [] => .exc c e
  | (exm, C) :: r => (match exm c with
    | true => (match C c e with | .exc _ _ => .bad | q => q)
    | false => hdlC c e r)
def tryM (B : CS) (hs : HC) : CS := fun e => match B e with
  | .exc c e1 => hdlC c e1 hs
  | r => r
/-- clauses and their closures -/
inductive PPH (X : Cx) (cl : Nat → Value) (F0 H0 : Hp) : List ExceptHandler → HC → List HT → Prop
  | nil : PPH X cl F0 H0 [] [] []
  | cons {h : ExceptHandler} {hds : List ExceptHandler} {exm : Nat → Bool} {C : Nat → CS} {hc : HC} {c : Value} {i : Nat} {ts : Addr → Value → Option Addr → TS} {l : List HT}
      (ok : ∀ {hds' l'}, HdsAs X hds' l' → HdsAs X (h :: hds') ((c, i, ts) :: l')) (hE : ExF X.K cl c exm)
      (su : ∀ (k : Nat) (Dn : Ends) (F : Hp) (e : En) (σ : L2.St) (H : Hp), StS X.K F0 H0 F e σ H → exm k = true → PostS X.K cl W0 F0 H0 F Dn (C k e) → ∀ a, H a = none → ts a (cl k) none (dnUn Dn i) (σ.set i (some (.ref a))) H)
      (r : PPH X cl F0 H0 hds hc l) : PPH X cl F0 H0 (h :: hds) ((exm, C) :: hc) ((c, i, ts) :: l)
theorem PPH.ok {X : Cx} {cl : Nat → Value} {F0 H0 : Hp} {hds : List ExceptHandler} {hc : HC} {l : List HT} (h : PPH X cl F0 H0 hds hc l) : HdsAs X hds l := by
  induction h with
  | nil => exact .nil
  | cons ok _ _ _ ih => exact ok ih
section
variable {X : Cx} {cl : Nat → Value} {W : WX} {F0 H0 : Hp} {body : List Stmt} {B : CS} {h₀ : ExceptHandler} {hds : List ExceptHandler} {hc : HC} {l : List HT} {pos : Pos}
theorem hdl_go {Dn : Ends} {c : Nat} {e : En} {F H : Hp} {σ : L2.St} (s : StS X.K F0 H0 F e σ H) : ∀ {hds : List ExceptHandler} {hc : HC} {l : List HT}, PPH X cl F0 H0 hds hc l → PostS X.K cl W F0 H0 F Dn (hdlC c e hc) → wAsM X.K W Dn l (cl c) none σ H
  | _, _, _, .nil, h => h F σ H (Same.refl _) s
  | _, _, _, .cons (exm := exm) (C := C) (hc := hc) ok hE su r, h => by
    obtain ⟨D, eD, he⟩ := hE c
    refine ⟨exm c, by rw [eD]; exact he, fun z a na => ?_, fun z => ?_⟩
    · simp only [hdlC, z] at h
      refine su c Dn F e σ H s z ?_ a na
      cases y : C c e with
      | exc c2 e2 => rw [y] at h; exact h.elim
      | nx e2 => rw [y] at h; exact h
      | rt d => rw [y] at h; exact h
      | bk e2 => rw [y] at h; exact h
      | ct e2 => rw [y] at h; exact h
      | bad => rw [y] at h; exact h
    · simp only [hdlC, z] at h
      exact hdl_go s r h
theorem pps_tryM (hs : X.stack = X.env :: X.outer) (hf : X.env.frame = some X.env.locals) (hN : X.N.Nodup) (tk : Takes X W)
    (hb : ∀ (W : WX) (pn : List (Addr × Obj)) (xe : Value → Shared → Prop), Takes (X.tr pn xe) W → PassesOwn (model X.prog X.w) X.A X.env xe → PPSs (X.tr pn xe) cl W F0 H0 body B)
    (hh : PPH X cl F0 H0 (h₀ :: hds) hc l) : PPS X cl W F0 H0 (.Try body (h₀ :: hds) [] [] pos) (tryM B hc) := by
  refine PS.imp (ps_try_asM (tb := fun W => ts X.K cl W F0 H0 B) hs hf hN tk hb hh.ok) fun Dn σ H ⟨F, e, st, h⟩ => ?_
  refine ⟨F, e, st, ?_⟩
  unfold tryM at h
  cases q : B e with
  | nx e1 => rw [q] at h; exact h
  | rt d => rw [q] at h; exact h
  | bk e1 => rw [q] at h; exact h
  | ct e1 => rw [q] at h; exact h
  | bad => rw [q] at h; exact h
  | exc c e1 =>
    rw [q] at h
    exact fun F' σ' H' x s => hdl_go s hh (PostS.grow (r := hdlC c e1 hc) _ _ _ _ _ x h)
end
section
variable {X : Cx} {cl : Nat → Value} {F0 H0 : Hp} {x n : Str} {hv : Value} {i j : Nat} {np pos' p1 p2 p3 p4 p5 p6 p7 : Pos} {exm isE : Nat → Bool} {s : Str} {T : Str} {Tn : String} {j1 : Nat} {hds : List ExceptHandler} {hc : HC} {l : List HT}
/-- except X as n: return [str, isinstance(n, T)] -/
theorem pph_ret (hN : X.N.Nodup) (hi : X.N[i]? = some n) (hln : X.env.kindOf n = some .local) (hcn' : Names X x hv) (hE : ExF X.K cl hv exm) (hI : ExI X.K cl Tn isE)
    (hgI : Gl X "isinstance") (hmI : X.mg "isinstance" = none) (hgT : Gl X T) (hmT : X.mg T = none) (hvT : bootBuiltins T = some (.type Tn)) (r : PPH X cl F0 H0 hds hc l)
    (hst : PySem.PyData.strOk s = true := by decide +kernel) (hnT : T ≠ "__name__" := by decide) (hdT : (T == ("__debug__" : Str)) = false := by decide) (hdn : (n == ("__debug__" : Str)) = false := by decide) (hcn : (n == ("__classdict__" : Str)) = false := by decide)
    (h1 : starEach [.Constant (.str s) j1 p1, .Call (.Name "isinstance" p2) [.Name n p3, .Name T p4] [] p5] X.env = (false, eval (.Constant (.str s) j1 p1) X.env) :: starEach [.Call (.Name "isinstance" p2) [.Name n p3, .Name T p4] [] p5] X.env := by rfl)
    (h2 : starEach [.Call (.Name "isinstance" p2) [.Name n p3, .Name T p4] [] p5] X.env = (false, eval (.Call (.Name "isinstance" p2) [.Name n p3, .Name T p4] [] p5) X.env) :: starEach [] X.env := by rfl)
    (h3 : starEach [.Name n p3, .Name T p4] X.env = (false, eval (.Name n p3) X.env) :: starEach [.Name T p4] X.env := by rfl) (h4 : starEach [.Name T p4] X.env = (false, eval (.Name T p4) X.env) :: starEach [] X.env := by rfl) (h5 : (backTo p5 (starEach [.Name T p4] X.env)).any (·.1) = false := by rfl) :
    PPH X cl F0 H0 (.ExceptHandler (some (.Name x np)) (some n) [.Return (some (.List [.Constant (.str s) j1 p1, .Call (.Name "isinstance" p2) [.Name n p3, .Name T p4] [] p5] p6)) p7] pos' :: hds)
      ((exm, fun c e => inE i e (.rt (lstE s isE c))) :: hc)
      ((hv, i, fun a cls d Dn σ H => ∃ D, cls = .ref D ∧ d = none ∧ ExcC X.K D ∧ tRet (tLst (tCons (tC (.str s)) (tCons (tCB (rIsE X.K D a) (tCons (tVar i) (tCons (tC (.ty Tn)) tNil))) tNil))) Dn σ H) :: l) := by
  refine .cons (fun hr => .cons hi hln hcn' (fun a oe cls d pn hz hfs => ⟨fun pins s σ H Dn I q => ?_⟩) hr) hE (fun k Dn F e σ H st z h a na => ?_) r
  · obtain ⟨D, rfl, rfl, C, q⟩ := q
    exact (pss_one (ps_ret (suite_lst C hz hfs hi hln hgI hmI hgT hmT hvT hnT hdT hdn hcn h1 h2 h3 h4 h5))).run pins s σ H Dn I q
  · obtain ⟨D', eD', C, hk⟩ := hI k
    obtain ⟨hlen, hy⟩ := inE_ok h
    rw [st.st.len] at hlen
    refine ⟨D', eD', rfl, C, ?_⟩
    exact suite_go st hst hk (by rw [List.getElem?_set_self hlen]) fun F2 H2 p x2 s2 r2 => hy _ _ _ s2.ext r2
/-- except X as n: y = [str, isinstance(n, T)] -/
theorem pph_asg {y : Str} {py : Pos} (hN : X.N.Nodup) (hi : X.N[i]? = some n) (hln : X.env.kindOf n = some .local) (hj : X.N[j]? = some y) (hly : Loc X.env.scope y) (hij : i ≠ j) (hcn' : Names X x hv) (hE : ExF X.K cl hv exm) (hI : ExI X.K cl Tn isE)
    (hgI : Gl X "isinstance") (hmI : X.mg "isinstance" = none) (hgT : Gl X T) (hmT : X.mg T = none) (hvT : bootBuiltins T = some (.type Tn)) (r : PPH X cl F0 H0 hds hc l)
    (hst : PySem.PyData.strOk s = true := by decide +kernel) (hnT : T ≠ "__name__" := by decide) (hdT : (T == ("__debug__" : Str)) = false := by decide) (hdn : (n == ("__debug__" : Str)) = false := by decide) (hcn : (n == ("__classdict__" : Str)) = false := by decide)
    (hsw : swapsWith (.List [.Constant (.str s) j1 p1, .Call (.Name "isinstance" p2) [.Name n p3, .Name T p4] [] p5] p6) (some (.Name y py)) p7.line X.env = pure false := by rfl) (hfn : X.fn y = true ∨ X.env.scope.names.lookup y = some .local := by first | exact .inl rfl | exact .inr rfl | assumption)
    (h1 : starEach [.Constant (.str s) j1 p1, .Call (.Name "isinstance" p2) [.Name n p3, .Name T p4] [] p5] X.env = (false, eval (.Constant (.str s) j1 p1) X.env) :: starEach [.Call (.Name "isinstance" p2) [.Name n p3, .Name T p4] [] p5] X.env := by rfl)
    (h2 : starEach [.Call (.Name "isinstance" p2) [.Name n p3, .Name T p4] [] p5] X.env = (false, eval (.Call (.Name "isinstance" p2) [.Name n p3, .Name T p4] [] p5) X.env) :: starEach [] X.env := by rfl)
    (h3 : starEach [.Name n p3, .Name T p4] X.env = (false, eval (.Name n p3) X.env) :: starEach [.Name T p4] X.env := by rfl) (h4 : starEach [.Name T p4] X.env = (false, eval (.Name T p4) X.env) :: starEach [] X.env := by rfl) (h5 : (backTo p5 (starEach [.Name T p4] X.env)).any (·.1) = false := by rfl) :
    PPH X cl F0 H0 (.ExceptHandler (some (.Name x np)) (some n) [.Assign [.Name y py] (.List [.Constant (.str s) j1 p1, .Call (.Name "isinstance" p2) [.Name n p3, .Name T p4] [] p5] p6) p7] pos' :: hds)
      ((exm, fun c e => inE i e (.nx ((e.set j (.dat (lstE s isE c))).set i .no))) :: hc)
      ((hv, i, fun a cls d Dn σ H => ∃ D, cls = .ref D ∧ d = none ∧ ExcC X.K D ∧ tAsg (tLst (tCons (tC (.str s)) (tCons (tCB (rIsE X.K D a) (tCons (tVar i) (tCons (tC (.ty Tn)) tNil))) tNil))) (gName j) Dn σ H) :: l) := by
  refine .cons (fun hr => .cons hi hln hcn' (fun a oe cls d pn hz hfs => ⟨fun pins s σ H Dn I q => ?_⟩) hr) hE (fun k Dn F e σ' H' s1 z h a na => ?_) r
  · obtain ⟨D, rfl, rfl, C, q⟩ := q
    exact (pss_one (ps_set (X := X.suite a ((a, oe) :: pn)) hN hj hly (suite_lst C hz hfs hi hln hgI hmI hgT hmT hvT hnT hdT hdn hcn h1 h2 h3 h4 h5) hsw hfn)).run pins s σ H Dn I q
  · obtain ⟨D', eD', C, hk⟩ := hI k
    obtain ⟨hlen, hy⟩ := inE_ok h
    rw [s1.st.len] at hlen
    refine ⟨D', eD', rfl, C, ?_⟩
    refine suite_go s1 hst hk (by rw [List.getElem?_set_self hlen]) fun F2 H2 p x2 s2 r2 => ?_
    have e3 : ((σ'.set i (some (V.ref a))).set j (some (V.ref p))).set i none = (σ'.set j (some (V.ref p))).set i none := by
      rw [List.set_comm _ _ hij, List.set_set]
    obtain ⟨a1, b1⟩ := s2.st.set (i := j) r2
    obtain ⟨a2, b2⟩ := a1.unset (i := i)
    show Dn.nx (((σ'.set i (some (V.ref a))).set j (some (V.ref p))).set i none) H2
    rw [e3]
    exact hy _ _ _ x2 (s2.keep a2 (b1.trans b2))
end
end M
namespace M
open PySem PySem.Spec PyProof.Rows L2

/-! ### [f, g, ..][i](..) -/
/-- the def at f computes m -/
def CallOk (X : Cx) (cl : Nat → Value) (f : Addr) (m : List D → Res D) : Prop :=
  ∃ (fd : FuncData) (ps : List Str) (k : Nat), PySem.W.keepIn X.K (.ref f) = true ∧ Binds X.K fd ps [] ∧ FnOk X.prog X.w X.K X.mg X.base (L2.CX X.prog X.w) k f fd ps (spP X.K cl m) ∧ Room k X.A ∧ Solid m
inductive FsOk (X : Cx) (cl : Nat → Value) : List Expr → List (List D → Res D) → List Addr → Prop
  | nil : FsOk X cl [] [] []
  | cons {x : Str} {p : Pos} {es : List Expr} {m : List D → Res D} {ms : List (List D → Res D)} {f : Addr} {fs : List Addr} (hg : Gl X x) (hm : X.mg x = some (.ref f)) (hdb : (x == ("__debug__" : Str)) = false) (ok : CallOk X cl f m)
      (hs : starEach (.Name x p :: es) X.env = (false, eval (.Name x p) X.env) :: starEach es X.env) (r : FsOk X cl es ms fs) : FsOk X cl (.Name x p :: es) (m :: ms) (f :: fs)
theorem fs_pa {X : Cx} {cl : Nat → Value} : ∀ {es : List Expr} {ms : List (List D → Res D)} {fs : List Addr}, FsOk X cl es ms fs → PA X es (fun _ H Q => Q (fs.map V.ref) H)
  | _, _, _, .nil => pa_nil
  | _, _, _, .cons hg hm hdb ok hs r => pa_cons (pe_glob (v := .ref _) hg hm rfl hdb) (fs_pa r) hs
def FsE (X : Cx) (cl : Nat → Value) (es : List Expr) (ms : List (List D → Res D)) : Prop := ∃ fs, FsOk X cl es ms fs
theorem fs_nil {X : Cx} {cl : Nat → Value} : FsE X cl [] [] := ⟨[], .nil⟩
theorem fs_cons {X : Cx} {cl : Nat → Value} {x : Str} {p : Pos} {es : List Expr} {m : List D → Res D} {ms : List (List D → Res D)} {k : Nat} {st : Stmt} {ps : List Str} (G : Fm X.prog X.w X.K X.mg X.base cl k x st ps m) (sm : Solid m) (hr : Room k X.A) (hg : Gl X x) (r : FsE X cl es ms)
    (hdb : (x == ("__debug__" : Str)) = false := by decide) (hs : starEach (.Name x p :: es) X.env = (false, eval (.Name x p) X.env) :: starEach es X.env := by rfl) : FsE X cl (.Name x p :: es) (m :: ms) := by
  obtain ⟨fs, r⟩ := r
  obtain ⟨f, fd, hm, F, hb, ok⟩ := G.ex
  exact ⟨f :: fs, .cons hg hm hdb ⟨fd, ps, k, F.kp, hb, ok, hr, sm⟩ hs r⟩
theorem fs_at {X : Cx} {cl : Nat → Value} : ∀ {es : List Expr} {ms : List (List D → Res D)} {fs : List Addr} {i : Nat} {m : List D → Res D}, FsOk X cl es ms fs → ms[i]? = some m → ∃ f, fs[i]? = some f ∧ CallOk X cl f m
  | _, _, _, _, _, .nil, h => by simp at h
  | _, _, _, 0, _, .cons _ _ _ ok _ _, h => by simp at h; subst h; exact ⟨_, rfl, ok⟩
  | _, _, _, i + 1, _, .cons _ _ _ _ _ r, h => by
    obtain ⟨f, a, b⟩ := fs_at (i := i) r (by simpa using h)
    exact ⟨f, by simpa using a, b⟩
def nthM : List (List D → Res D) → Nat → Option (List D → Res D)
  | [], _ => none
  | m :: l, n => (match n with | 0 => some m | n + 1 => nthM l n)
theorem nthM_eq : ∀ (l : List (List D → Res D)) (n : Nat), nthM l n = l[n]?
  | [], _ => by simp [nthM]
  | m :: l, 0 => rfl
  | m :: l, n + 1 => by simp only [nthM, nthM_eq l n, List.getElem?_cons_succ]
def cCallFs (ms : List (List D → Res D)) (I : CE) (L : CA) : CE := fun e => (I e).bind fun d => match d with
  | .int i => (match i with
    | .ofNat n => (match nthM ms n with | some m => (L e).bind m | none => .bad)
    | .negSucc _ => .bad)
  | _ => .bad
section
variable {X : Cx} {cl : Nat → Value} {W : WX} {a ix : Expr} {es fes : List Expr} {ms : List (List D → Res D)} {I : CE} {L : CA} {pos lp sp : Pos}
theorem atD_eq2 (vs : List V) (n : Nat) : vs[n]? = L2.atI vs (Int.ofNat n) := by
  unfold L2.atI
  rw [← ixK_ok]
  simp only [ixK]
  cases z : Nat.blt n vs.length with
  | true => rfl
  | false =>
    have : vs.length ≤ n := by
      apply Nat.le_of_not_lt
      intro c
      rw [PySem.W.Z.blt_iff.mpr c] at z; cases z
    simp [List.getElem?_eq_none this]
theorem fs_len : ∀ {es : List Expr} {ms : List (List D → Res D)} {fs : List Addr}, FsOk X cl es ms fs → fs.length = es.length
  | _, _, _, .nil => rfl
  | _, _, _, .cons _ _ _ _ _ r => congrArg (· + 1) (fs_len r)
theorem pp_callFs (G : FsE X cl fes ms) (tk : Takes X W) (hi : PP X cl W ix I) (ha : PPA X cl W (a :: es) L) (hpi : PlainIx ix := by exact fun _ _ => rfl)
    (he : starEach (a :: es) X.env = (false, eval a X.env) :: starEach es X.env := by rfl) (hpl : (backTo pos (starEach es X.env)).any (·.1) = false := by rfl)
    (hz : Nat.ble fes.length 1000 = true := by rfl)
    (hc : eval (.Call (.Subscript (.List fes lp) ix sp) (a :: es) [] pos) X.env = (do callWith pos (← eval (.Subscript (.List fes lp) ix sp) X.env) [] (backTo pos (starEach (a :: es) X.env)) (backToKw pos (keywordEach [] X.env))) := by rfl) :
    PP X cl W (.Call (.Subscript (.List fes lp) ix sp) (a :: es) [] pos) (cCallFs ms I L) := by
  obtain ⟨fs, G⟩ := G
  refine ⟨fun pins s σ H Q J ⟨F, e, st, h⟩ => ?_⟩
  have key : PE X (.Subscript (.List fes lp) ix sp) (tOp (rIxL X.K) (tLst fun _ H Q => Q (fs.map V.ref) H) (tp X.K cl W I)) := pe_ix ix_list (pe_lst (fs_pa G)) hi hpi
  refine Call_ ?_ hc
  let Qf : VK := fun v H1 => ∃ f m F1, v = V.ref f ∧ CallOk X cl f m ∧ Stt X.K F1 e σ H1 ∧ PostE X.K cl W F1 H1 σ Q ((L e).bind m)
  refine thn (key.run pins s σ H Qf J ?_) fun u s1 ⟨v, H1, I1, rv, f, m, F1, ev, ok, st1, h1⟩ => ?_
  · refine ⟨by rw [List.length_map]; rw [fs_len G, sizeLine_eq]; have := Nat.le_of_ble_eq_true hz; omega, fun p np => ?_⟩
    have w := Ext.add st.sub np (.lst (fs.map V.ref))
    refine go1E (st.ext w) (h.ext w) fun d F2 H2 y x2 st2 r2 h2 => ?_
    cases d with
    | int k =>
      cases r2
      cases k with
      | ofNat n =>
        simp only [nthM_eq] at h2
        cases q : ms[n]? with
        | none => rw [q] at h2; exact h2.elim
        | some m =>
          rw [q] at h2
          obtain ⟨f, e1, ok⟩ := fs_at G q
          refine ⟨p, fs.map V.ref, Int.ofNat n, .ref f, rfl, rfl, .inl (.inl (x2.h _ _ upd_same)), ?_, f, m, F2, rfl, ok, st2, h2⟩
          rw [← atD_eq2, List.getElem?_map, e1]
          rfl
      | negSucc n => exact h2.elim
    | _ => exact h2.elim
  · subst ev
    cases rv
    obtain ⟨fd, ps, k, kp, hb, fok, hr, hsol⟩ := ok
    refine PySem.W.callWith_K (h₀ := X.base) I1.ok.mod.kin kp (thn (ha.run pos pins s1 σ H1 (fun vs H2 => spP X.K cl m vs H2 Q (WE W σ)) I1 ?_) fun us s2 ⟨vs, H2, I2, r, q⟩ => ⟨I2.kIn, ?_⟩) he hpl
    · exact goAE st1 h1 fun l F2 H2 vs x2 st2 r2 h2 => sp_go st2.sub r2 h2 (hsol l)
    · exact run_fnS fok hr hb (passAt tk σ) I2 r q
end
end M
namespace M
open PySem PySem.Spec PyProof.Rows L2

/-! ### x.remove(k), x a list of whole numbers of one's own -/
def erI (k : Int) : List Int → Option (List Int)
  | [] => none
  | n :: r => (match PySem.W.Z.eqB n k with | true => some r | false => (match erI k r with | some q => some (n :: q) | none => none))
theorem erI_ok {k : Int} : ∀ {ns q : List Int}, erI k ns = some q → k ∈ ns ∧ ns.erase k = q
  | [], _, h => nomatch h
  | n :: r, q, h => by
    simp only [erI] at h
    cases z : PySem.W.Z.eqB n k with
    | true =>
      rw [z] at h; cases h
      have e := (PySem.W.Z.eqB_iff _ _).mp z
      subst e
      exact ⟨List.mem_cons_self, by simp⟩
    | false =>
      rw [z] at h
      have ne : n ≠ k := fun e => by rw [(PySem.W.Z.eqB_iff _ _).mpr e] at z; cases z
      cases y : erI k r with
      | none => rw [y] at h; cases h
      | some q' =>
        rw [y] at h; cases h
        obtain ⟨a, b⟩ := erI_ok y
        exact ⟨List.mem_cons_of_mem _ a, by rw [List.erase_cons_tail (by simpa using ne), b]⟩
theorem rd_ints {K : PySem.W.Frag} {F : Hp} : ∀ {ns : List Int} {vs : List V}, RdL K F (ns.map D.int) vs → vs = ns.map V.int
  | [], _, .nil => rfl
  | n :: ns, _, .cons r t => by cases r; rw [rd_ints t]; rfl
theorem ints_all {K : PySem.W.Frag} {F : Hp} : ∀ q : List Int, RdL K F (q.map D.int) (q.map V.int)
  | [] => .nil
  | n :: q => .cons (.int n) (ints_all q)
def sRem (i : Nat) (A : CE) : CS := fun e => match ownL e i with
  | some l => rE (A e) e fun d => (match d with
    | .int k => (match intsL l with
      | some ns => (match erI k ns with | some q => .nx (e.set i (.own (q.map D.int))) | none => .bad)
      | none => .bad)
    | _ => .bad)
  | none => .bad
section
variable {X : Cx} {cl : Nat → Value} {W : WX} {F0 H0 : Hp} {a : Expr} {A : CE} {pos cp ap p1 : Pos} {x : Str} {i : Nat}
theorem pps_rem (hc : X.calm = true) (tk : Takes X W) (hi : X.N[i]? = some x) (ha : PP X cl W a A) (hv : Vis X.env.scope x := by first | exact Or.inl rfl | exact Or.inr (Or.inl rfl) | exact Or.inr (Or.inr rfl)) (hd : (x == ("__debug__" : Str)) = false := by decide) (hcd : (x == ("__classdict__" : Str)) = false := by decide)
    (hbase : attributeBase (.Name x p1) "remove" X.env (eval (.Name x p1) X.env) = eval (.Name x p1) X.env := by rfl)
    (hfew : ((backTo cp (starEach [a] X.env)).all (fun x => !x.1) && (backToKw cp (keywordEach [] X.env)).all (fun x => x.1.isSome)
      && decide ([a].length + ([] : List Keyword).length + (if ([] : List Keyword).isEmpty then 0 else 1) < 30)) = true := by rfl)
    (hline : (ap.endLine == cp.line) = true := by rfl) (hs : starEach [a] X.env = (false, eval a X.env) :: starEach [] X.env := by rfl) (hplain : (backTo cp (starEach [] X.env)).any (·.1) = false := by rfl)
    (hsw : swapsWith (.Call (.Attribute (.Name x p1) "remove" ap) [a] [] cp) none pos.line X.env = pure false := by rfl) :
    PPS X cl W F0 H0 (.Expr (.Call (.Attribute (.Name x p1) "remove" ap) [a] [] cp) pos) (sRem i A) :=
  PS.imp (ps_expr (pe_remX hc tk (pe_var hi hv hd hcd) ha hbase hfew hline hs hplain) hsw) fun Dn σ H ⟨F, e, s, h⟩ => by
    unfold sRem at h
    cases q : ownL e i with
    | none => rw [q] at h; exact h.elim
    | some l =>
      rw [q] at h
      have q1 := ownL_eq q
      obtain ⟨p, vs, h1, h2, h3, h4⟩ := s.st.at_ i _ q1
      refine ⟨.ref p, h1, .inl ⟨rfl, vs, .inl (.inl h2)⟩, goSE s h fun d F1 H1 v x1 s1 r1 h1' => ?_⟩
      cases d with
      | int k =>
        simp only at h1'
        cases q2 : intsL l with
        | none => rw [q2] at h1'; exact h1'.elim
        | some ns =>
          rw [q2] at h1'
          simp only at h1'
          cases q3 : erI k ns with
          | none => rw [q3] at h1'; exact h1'.elim
          | some q' =>
            rw [q3] at h1'
            cases r1
            obtain ⟨p2, vs2, g1, g2, g3, g4⟩ := s1.st.at_ i _ q1
            rw [h1] at g1
            cases g1
            rw [intsL_mem q2] at g4
            have ev := rd_ints g4
            subst ev
            obtain ⟨hm, he⟩ := erI_ok q3
            refine ⟨p, ns, k, rfl, rfl, g2, fun _ => ?_, fun hn => absurd hm hn⟩
            rw [he]
            exact h1' _ _ _ (Same.refl _) (s1.mut q1 h1 g3 (ints_all q'))
      | _ => exact h1'.elim
end
end M
namespace M
open PySem PySem.Spec PyProof.Rows L2

/-! ### {k: v} -/
def uD1 (A B : CE) : CU := fun e => (A e).bind fun k => (B e).bind fun v => match kOk k with
  | true => (match v.solid with | true => .ok (.owd [k] [v]) | false => .bad)
  | false => .bad
def tDisp1 (K : PySem.W.Frag) (tk tv : TE) : TE := fun σ H Q => ∀ p, H p = none → tk σ (upd H p (DctO p [])) fun kv H1 => tv σ H1 fun dv H2 => ∃ F kd, H2 p = some (DctO p []) ∧ Same F H2 ∧ Rd K F kd kv ∧ kOk kd = true ∧ ∀ b, kv = .ref b → Q (.ref p) (upd H2 p (DctO p [(kd, b, dv)]))
section
variable {X : Cx} {cl : Nat → Value} {W : WX} {k v : Expr} {A B : CE} {pos : Pos} {tk tv : TE}
theorem pe_disp1 (hu : X.A.units + 64 < cLine) (hk : PE X k tk) (hv : PE X v tv) : PE X (.Dict [some k] [v] pos) (tDisp1 X.K tk tv) := by
  refine ⟨fun pins s σ H Q I q => ?_⟩
  have hn := I.hok.fresh (Nat.le_refl s.heap.objs.size)
  have I1 := I.laid (a := s.heap.objs.size) (o := DctO s.heap.objs.size []) (h' := s.heap.push { cls := .type "dict", data := .dict #[] }) (t' := s.toks) (fun _ _ q => Heap.get?_push_of_some _ q) (Nat.le_refl _) (dct_empty s.heap I.big)
  have hw := (PySem.zip_pairTrees [some k] [v] X.env pos rfl rfl)
  rw [arm_eval_Dict, hw, dictDisplay_pairs (pairTrees [some k] [v] X.env pos) (by simp [pairTrees]) (by simp [pairTrees])]
  refine wpAny_bind (wpAny_standAt (wpAny_bind (wpAny_subDictH (knd := nestedKind X.prog X.w) (by show X.A.units + 8 < cLine; omega) (by simp [pairTrees]) ?_)))
  refine pairTrees_cons_walk (thn (hk.run pins _ σ _ _ I1 (q _ hn)) fun ku s1 ⟨kv, H1, I2, rk, q1⟩ => thn (hv.run pins s1 σ H1 _ I2 q1) fun du s2 ⟨dv, H2, I3, rd, F, kd, e1, sm, rkd, zk, q2⟩ => pairTrees_nil_walk ?_)
  obtain ⟨b, rfl, rfl, ki⟩ := key_at I3 sm rkd rk (kOk_ok zk)
  obtain ⟨vs, rv, dd, hd, hl, _⟩ := dofh (F := F) I3 sm e1 RdE.nil
  have dd0 : s2.heap.DictOfH (nestedKind X.prog X.w) s.heap.objs.size [] := dd
  refine ⟨[(toN kd, b, du)], ⟨rfl, rfl, ki, trivial⟩, dd0, fun h' tk' dd' hs => wpAny_pure ⟨.ref s.heap.objs.size, _, ?_, rfl, q2 b rfl⟩⟩
  have dd2 : h'.DictOfH (nestedKind X.prog X.w) s.heap.objs.size (xsOf [(kd, b, dv)] [du]) := dd'
  have he : ∃ q, h'.get? s.heap.objs.size = some q := let ⟨q, _, _, hq, _⟩ := dd2; ⟨q, hq⟩
  exact d_write I3 (by rw [e1]; exact True.intro) hs he (dct_new hd (by simp) (by simp) (fun e he => by rw [List.mem_singleton.mp he]; exact kOk_ok zk) (.cons rd .nil) dd2)
theorem ppu_disp1 (hu : X.A.units + 64 < cLine) (hk : PP X cl W k A) (hv : PP X cl W v B) : PPU X cl W (.Dict [some k] [v] pos) (uD1 A B) := PE.imp (pe_disp1 hu hk hv) fun σ H Q ⟨F, e, st, h⟩ => by
  intro p np
  have w := Ext.add st.sub np (DctO p [])
  have nF : F p = none := by
    cases q : F p with
    | none => rfl
    | some o => rw [st.sub _ _ q] at np; cases np
  refine ⟨F, e, st.ext w, ?_⟩
  unfold uD1 at h
  cases qa : A e with
  | bad => rw [qa] at h; exact h.elim
  | exc c => rw [qa] at h; exact fun F' H' x => h F' H' (w.trans x)
  | ok kd =>
    rw [qa] at h
    intro F1 H1 kv x1 r1
    refine ⟨F1, e, (st.ext w).ext x1, ?_⟩
    cases qb : B e with
    | bad => simp only [Res.bind, qb] at h; exact h.elim
    | exc c => simp only [Res.bind, qb] at h; exact fun F' H' x => h F' H' ((w.trans x1).trans x)
    | ok d =>
      simp only [Res.bind, qb] at h
      intro F2 H2 dv x2 r2
      cases zk : kOk kd with
      | false => rw [zk] at h; exact h.elim
      | true =>
        rw [zk] at h
        cases zs : d.solid with
        | false => simp only [zs] at h; exact h.elim
        | true =>
          simp only [zs] at h
          have x12 := x1.trans x2
          have hp := x12.h _ _ (upd_same (H := H) (a := p) (o := DctO p []))
          have nF2 : F2 p = none := x12.stay nF upd_same
          have rk := (r1.rd (solid_of_kOk zk)).same x2.f
          refine ⟨F2, kd, hp, x2.sub, rk, zk, fun b eb => ?_⟩
          subst eb
          have e2 : Ext F H F2 (upd H2 p (DctO p [(kd, b, dv)])) := by
            refine ⟨x12.f, fun c u z => ?_, fun c u z => ?_, fun c o z => ?_⟩
            · rw [upd_ne (ne_of_none z np)]
              exact x12.h _ _ (by rw [upd_ne (ne_of_none z np)]; exact z)
            · rw [upd_ne (ne_of_none z nF2)]; exact x2.sub _ _ z
            · rcases x12.new c o z with y | y
              · exact .inl y
              · by_cases hc : c = p
                · subst hc; exact .inr np
                · rw [upd_ne hc] at y; exact .inr y
          exact h F2 _ (.ref p) e2 ⟨p, [(kd, b, dv)], rfl, upd_same, nF2, .cons rk (r2.rd zs) .nil⟩ fun _ a ea => by cases ea; exact np
end
end M
namespace M
open PySem PySem.Spec PyProof.Rows L2

/-! ### an own list or dict read as data for a while -/
mutual
def noLD : D → Bool
  | .tup l => noLL l
  | .lst _ => false
  | .bor _ => false
  | .dct _ _ => false
  | .bdc _ _ => false
  | .non => true
  | .bl _ => true
  | .int _ => true
  | .str _ => true
def noLL : List D → Bool
  | [] => true
  | d :: l => (match noLD d with | true => noLL l | false => false)
end
theorem noLL_cons {d : D} {l : List D} (h : noLL (d :: l) = true) : noLD d = true ∧ noLL l = true := by
  simp only [noLL] at h
  cases q : noLD d with
  | false => rw [q] at h; cases h
  | true => rw [q] at h; exact ⟨rfl, h⟩
/-- F without a -/
def cutF (F : Hp) (a : Addr) : Hp := fun b => if b = a then none else F b
mutual
theorem Rd.drp {K : PySem.W.Frag} {F : Hp} {a : Addr} {u : HO} (ha : F a = some u) (hu : ∀ o xs, u ≠ .frz o xs) : ∀ {d : D} {v : V}, noLD d = true → Rd K F d v → Rd K (cutF F a) d v
  | _, _, _, .non => .non
  | _, _, _, .bl b => .bl b
  | _, _, _, .int i => .int i
  | _, _, _, .str x h => .str x h
  | _, _, n, .tup s h => .tup (by
      rcases s with ⟨o, e, hd⟩ | s
      · refine .inl ⟨o, ?_, hd⟩
        unfold cutF
        rw [if_neg]
        · exact e
        · intro c
          subst c
          rw [ha] at e
          cases e
          exact hu _ _ rfl
      · exact .inr s) (RdL.drp ha hu n h)
  | _, _, n, .lst _ _ => nomatch n
  | _, _, n, .dct _ _ => nomatch n
theorem RdL.drp {K : PySem.W.Frag} {F : Hp} {a : Addr} {u : HO} (ha : F a = some u) (hu : ∀ o xs, u ≠ .frz o xs) : ∀ {l : List D} {vs : List V}, noLL l = true → RdL K F l vs → RdL K (cutF F a) l vs
  | _, _, _, .nil => .nil
  | _, _, n, .cons r h => .cons (Rd.drp ha hu (noLL_cons n).1 r) (RdL.drp ha hu (noLL_cons n).2 h)
end
def nB (k : Nat) (L : CA) : CA := fun e => match e[k]? with
  | some (.own l) => (match L (e.set k (.dat (.lst l))) with | .ok r => (match noLL r with | true => .ok r | false => .bad) | q => q)
  | some (.owd ks vs) => (match L (e.set k (.dat (.dct ks vs))) with | .ok r => (match noLL r with | true => .ok r | false => .bad) | q => q)
  | _ => L e
def cB (k : Nat) (A : CE) : CE := fun e => match e[k]? with
  | some (.own l) => (match A (e.set k (.dat (.lst l))) with | .ok r => (match noLD r with | true => .ok r | false => .bad) | q => q)
  | some (.owd ks vs) => (match A (e.set k (.dat (.dct ks vs))) with | .ok r => (match noLD r with | true => .ok r | false => .bad) | q => q)
  | _ => A e
section
variable {K : PySem.W.Frag} {cl : Nat → Value} {W : WX} {F H F1 H1 : Hp} {σ : L2.St} {e : En}
/-- the heaps behind, with a no longer frozen -/
theorem ext_cut {a : Addr} {u : HO} (nF : F a = none) (hH : H a = some u) (x : Ext (upd F a u) H F1 H1) : Ext F H (cutF F1 a) H1 := by
  refine ⟨fun b o z => ?_, x.h, fun b o z => ?_, fun b o z => ?_⟩
  · have hb : b ≠ a := ne_of_none z nF
    unfold cutF
    rw [if_neg hb]
    exact x.f _ _ (by rw [upd_ne hb]; exact z)
  · unfold cutF at z
    by_cases hb : b = a
    · rw [if_pos hb] at z; cases z
    · rw [if_neg hb] at z; exact x.sub _ _ z
  · unfold cutF at z
    by_cases hb : b = a
    · rw [if_pos hb] at z; cases z
    · rw [if_neg hb] at z
      rcases x.new b o z with y | y
      · rw [upd_ne hb] at y; exact .inl y
      · exact .inr y
theorem own_kind {o : Sl} {x : Option (Option V)} (ho : o.isOwn = true) (h : SlOk K F H x o) : ∃ a u, x = some (some (.ref a)) ∧ H a = some u ∧ F a = none ∧ ∀ ob xs, u ≠ .frz ob xs := by
  cases o with
  | no => cases ho
  | dat d => cases ho
  | own l => obtain ⟨a, vs, h1, h2, h3, _⟩ := h; exact ⟨a, _, h1, h2, h3, fun _ _ c => by cases c⟩
  | owd ks ws => obtain ⟨a, E, h1, h2, h3, _⟩ := h; exact ⟨a, _, h1, h2, h3, fun _ _ c => by cases c⟩
theorem tn_frz {o : Sl} {k : Nat} {L : CA} {Q : VK} (st : Stt K F e σ H) (q : e[k]? = some o) (ho : o.isOwn = true)
    (h : PostN K cl W F H σ Q (match L (e.set k (frD o)) with | .ok r => (match noLL r with | true => .ok r | false => .bad) | q => q)) : tn K cl W L σ H Q := by
  obtain ⟨a, u, h1, h2, h3, st'⟩ := st.freeze q ho
  obtain ⟨a', u', g1, g2, g3, g4⟩ := own_kind ho (st.at_ k _ q)
  rw [h1] at g1
  cases g1
  rw [h2] at g2
  cases g2
  refine ⟨upd F a u, e.set k (frD o), st', ?_⟩
  cases y : L (e.set k (frD o)) with
  | bad => rw [y] at h; exact h
  | exc c => rw [y] at h; exact fun F' H' x => h _ H' (ext_cut h3 h2 x)
  | ok r =>
    rw [y] at h
    simp only at h
    cases z : noLL r with
    | false => rw [z] at h; exact h.elim
    | true =>
      rw [z] at h
      intro F' H' p vs x np rl zl
      have ha : F' a = some u := x.f _ _ upd_same
      exact h _ H' p vs (ext_cut h3 h2 x) np (RdL.drp ha g4 z rl) zl
theorem tn_b (k : Nat) {L : CA} {Q : VK} (h : tn K cl W (nB k L) σ H Q) : tn K cl W L σ H Q := by
  obtain ⟨F, e, st, h⟩ := h
  unfold nB at h
  cases q : e[k]? with
  | none => rw [q] at h; exact ⟨F, e, st, h⟩
  | some s =>
    rw [q] at h
    cases s with
    | no => exact ⟨F, e, st, h⟩
    | dat d => exact ⟨F, e, st, h⟩
    | own l => exact tn_frz st q rfl h
    | owd ks vs => exact tn_frz st q rfl h
theorem tp_frz {o : Sl} {k : Nat} {A : CE} {Q : VK} (st : Stt K F e σ H) (q : e[k]? = some o) (ho : o.isOwn = true)
    (h : PostE K cl W F H σ Q (match A (e.set k (frD o)) with | .ok r => (match noLD r with | true => .ok r | false => .bad) | q => q)) : tp K cl W A σ H Q := by
  obtain ⟨a, u, h1, h2, h3, st'⟩ := st.freeze q ho
  obtain ⟨a', u', g1, g2, g3, g4⟩ := own_kind ho (st.at_ k _ q)
  rw [h1] at g1
  cases g1
  rw [h2] at g2
  cases g2
  refine ⟨upd F a u, e.set k (frD o), st', ?_⟩
  cases y : A (e.set k (frD o)) with
  | bad => rw [y] at h; exact h
  | exc c => rw [y] at h; exact fun F' H' x => h _ H' (ext_cut h3 h2 x)
  | ok r =>
    rw [y] at h
    simp only at h
    cases z : noLD r with
    | false => rw [z] at h; exact h.elim
    | true =>
      rw [z] at h
      intro F' H' v x rl
      have ha : F' a = some u := x.f _ _ upd_same
      have sr : r.solid = true := by cases r <;> first | rfl | cases z
      exact h _ H' v (ext_cut h3 h2 x) (.of (Rd.drp ha g4 z (rl.rd sr)))
theorem tp_b (k : Nat) {A : CE} {Q : VK} (h : tp K cl W (cB k A) σ H Q) : tp K cl W A σ H Q := by
  obtain ⟨F, e, st, h⟩ := h
  unfold cB at h
  cases q : e[k]? with
  | none => rw [q] at h; exact ⟨F, e, st, h⟩
  | some s =>
    rw [q] at h
    cases s with
    | no => exact ⟨F, e, st, h⟩
    | dat d => exact ⟨F, e, st, h⟩
    | own l => exact tp_frz st q rfl h
    | owd ks vs => exact tp_frz st q rfl h
end
section
variable {X : Cx} {cl : Nat → Value} {W : WX} {a : Expr} {A : CE} {L : CA}
theorem ppn_b (k : Nat) (h : PPN X cl W a L) : PPN X cl W a (nB k L) := PE.imp h fun _ _ _ h => tn_b k h
theorem pp_b (k : Nat) (h : PP X cl W a A) : PP X cl W a (cB k A) := PE.imp h fun _ _ _ h => tp_b k h
end
section
variable {X : Cx} {cl : Nat → Value} {W : WX} {F0 H0 : Hp} {a : Expr} {A : CE} {pos cp ap p1 : Pos} {x : Str} {i : Nat}
/-- x = [.. for ..] on one line, x a local -/
theorem pps_setLcNB (k : Nat) {elt tgt iter : Expr} {ifs : List Expr} {scope : Scope} {own : List (Str × Nat)} {G : CG} {T : CT} {E : CE} {A : CA} {pos' lp : Pos} (hc : X.calm = true) (hN : X.N.Nodup) (hi : X.N[i]? = some x) (hx : X.env.scope.names.lookup x = some .local) (hsw : swapsWith (.ListComp elt [⟨tgt, iter, ifs, 0⟩] scope lp) (some (.Name x pos')) pos.line X.env = pure true)
    (hit : PPI X cl W tgt iter A) (ok : BlkOk X.N X.env.scope scope own)
    (hg : ∀ (s : Shared) (H : Hp) (C : Addr) (cl' : List (Str × Addr)) (fp : List Addr), PPGw (X.blk s H scope (compEnvC scope cl' C X.env) fp) (own.map (·.2)) tgt G)
    (ht : ∀ (s : Shared) (H : Hp) (C : Addr) (cl' : List (Str × Addr)) (fp : List Addr), PPTs (X.blk s H scope (compEnvC scope cl' C X.env) fp) cl W0 ifs T)
    (he : ∀ (s : Shared) (H : Hp) (C : Addr) (cl' : List (Str × Addr)) (fp : List Addr), PP (X.blk s H scope (compEnvC scope cl' C X.env) fp) cl W0 elt E) (hs : ∀ x, foldedSetIterable iter X.env x = pure x := by intro _; rfl) :
    PPS X cl W F0 H0 (.Assign [.Name x pos'] (.ListComp elt [⟨tgt, iter, ifs, 0⟩] scope lp) pos) (fun e => inE i e (sSetN i (nB k (nLc A (own.map (·.2)) G T E)) e)) := by
  have h0 := ps_setLc (g := fun v σ H Q => ∃ F en d e', Stt X.K F en σ H ∧ RdG X.K F tgt d v ∧ G d en = some e' ∧ ∀ σ', Stt X.K F e' σ' H → OwnKeep en σ e' σ' → L2.wipe σ' (own.map (·.2)) = L2.wipe σ (own.map (·.2)) → Q σ' H)
    (tt := tt X.K cl W0 T) (te := tp X.K cl W0 E) hc hN hi hx hsw hit ok hg ht he hs
  have h1 := PS.imp (t' := tAsg (tn X.K cl W (nLc A (List.map (fun x : Str × Nat => x.2) own) G T E)) (gName i)) h0 fun Dn σ H h => tLc_of hit σ H _ (show tn X.K cl W (nLc A (List.map (fun x : Str × Nat => x.2) own) G T E) σ H _ from h)
  have h2 := PS.imp (t' := tAsg (tn X.K cl W (nB k (nLc A (List.map (fun x : Str × Nat => x.2) own) G T E))) (gName i)) h1 fun Dn σ H h => tn_b k (show tn X.K cl W (nB k (nLc A (List.map (fun x : Str × Nat => x.2) own) G T E)) σ H _ from h)
  refine PS.imp h2 fun Dn σ H ⟨F, e, s, h⟩ => ?_
  obtain ⟨hl, h⟩ := inE_ok h
  refine goSN2 s h fun l F1 H1 p vs x1 s1 np r z h1 => ?_
  exact h1 _ _ _ (Same.refl _) (own_set s1 hl np r)
end
section
variable {X : Cx} {cl : Nat → Value} {W : WX} {elt tgt iter : Expr} {ifs : List Expr} {scope : Scope} {own : List (Str × Nat)} {pos : Pos} {A : CA} {G : CG} {T : CT} {E : CE}
variable {F0 H0 : Hp} {x : Str} {i : Nat} {pos' lp : Pos}
theorem pps_setLcEB (k : Nat) (hs0 : X.stack = X.env :: X.outer) (hf0 : X.env.frame = some X.env.locals) (tk : Takes X W) (hc : X.calm = true) (hN : X.N.Nodup) (hi : X.N[i]? = some x) (hx : X.env.scope.names.lookup x = some .local) (hsw : swapsWith (.ListComp elt [⟨tgt, iter, ifs, 0⟩] scope lp) (some (.Name x pos')) pos.line X.env = pure true)
    (hit : PPI X cl W tgt iter A) (ok : BlkOk X.N X.env.scope scope own)
    (hg : ∀ (s : Shared) (H : Hp) (C : Addr) (cl' : List (Str × Addr)) (fp : List Addr) (xe : Value → Shared → Prop), PPGw (blkE X s H scope (compEnvC scope cl' C X.env) fp xe) (own.map (·.2)) tgt G)
    (ht : ∀ (s : Shared) (H : Hp) (C : Addr) (cl' : List (Str × Addr)) (fp : List Addr) (xe : Value → Shared → Prop) (Wb : WX), Takes (blkE X s H scope (compEnvC scope cl' C X.env) fp xe) Wb → PPTs (blkE X s H scope (compEnvC scope cl' C X.env) fp xe) cl Wb ifs T)
    (he : ∀ (s : Shared) (H : Hp) (C : Addr) (cl' : List (Str × Addr)) (fp : List Addr) (xe : Value → Shared → Prop) (Wb : WX), Takes (blkE X s H scope (compEnvC scope cl' C X.env) fp xe) Wb → PP (blkE X s H scope (compEnvC scope cl' C X.env) fp xe) cl Wb elt E) (hs : ∀ x, foldedSetIterable iter X.env x = pure x := by intro _; rfl) :
    PPS X cl W F0 H0 (.Assign [.Name x pos'] (.ListComp elt [⟨tgt, iter, ifs, 0⟩] scope lp) pos) (fun e => inE i e (sSetN i (nB k (nLcE A (own.map (·.2)) G T E)) e)) := by
  have h1 : PS X (.Assign [.Name x pos'] (.ListComp elt [⟨tgt, iter, ifs, 0⟩] scope lp) pos) (tAsg (tn X.K cl W (nLcE A (List.map (fun x : Str × Nat => x.2) own) G T E)) (gName i)) := by
    refine ⟨fun pins s σ H D I h => ?_⟩
    rw [exec_Assign_Name_used _ _ _ _ hsw]
    refine wpAny_bind (wpAny_standAt (wpAny_bind ?_))
    show wpAny _ X.A (do let _ ← comprehension (.ListComp elt [⟨tgt, iter, ifs, 0⟩] scope lp) scope X.env (firstIterPos [⟨tgt, iter, ifs, 0⟩] lp) (newList []) false (eval iter X.env) (some (assign (.Name x pos') X.env))) _ _ s
    have h : tn X.K cl W (nLcE A (List.map (fun x : Str × Nat => x.2) own) G T E) σ H (fun x H1 => gName i x σ H1 D.nx) := h
    refine wpAny_bind (thn (lc_coreE (g := fun v σ H Q => ∃ F en d e', Stt X.K F en σ H ∧ RdG X.K F tgt d v ∧ G d en = some e' ∧ ∀ σ', Stt X.K F e' σ' H → OwnKeep en σ e' σ' → L2.wipe σ' (own.map (·.2)) = L2.wipe σ (own.map (·.2)) → Q σ' H) (tt := tt X.K cl (fun c d _ H' => W c d σ H') T) (te := tp X.K cl (fun c d _ H' => W c d σ H') E) (Qf := fun _ s' => SP X pins D .next s') hs0 hf0 tk hc hN I hit ok hg (fun s H C cl' fp xe t => ht s H C cl' fp xe _ t) (fun s H C cl' fp xe t => he s H C cl' fp xe _ t) hs (tLc_ofE σ H _ h) fun L C s' m H' I' q hn f => ?_) fun _ s' hq => wpAny_pure (wpAny_pure hq))
    show wpAny _ _ (assign (.Name x pos') X.env (.ref L)) _ _ _
    refine wpAny_assign_Name (store_ok2 (v := V.ref L) I' hN hi (.inl hx) rfl (fun s2 I2 ⟨a, sb, ha⟩ => ?_) (.inr hx))
    obtain ⟨f0, f1, f2, f3, f4, f5⟩ := f
    have haC : C ≠ a := by
      rcases ha with z | z
      · rw [z]; exact f1
      · exact fun e => f4 x a z e.symm
    refine ⟨m, hn.sameBut sb haC, fun h3 sb3 => ?_⟩
    exact ⟨_, H', I2.turned (t' := s2.toks) (fun b o hb e => (sb3.2 b hb).trans e) f0 f1 f3 f4 f5, q⟩
  have h2 := PS.imp (t' := tAsg (tn X.K cl W (nB k (nLcE A (List.map (fun x : Str × Nat => x.2) own) G T E))) (gName i)) h1 fun Dn σ H h => tn_b k (show tn X.K cl W (nB k (nLcE A (List.map (fun x : Str × Nat => x.2) own) G T E)) σ H _ from h)
  refine PS.imp h2 fun Dn σ H ⟨F, e, s, h⟩ => ?_
  obtain ⟨hl, h⟩ := inE_ok h
  refine goSN2 s h fun l F1 H1 p vs x1 s1 np r z h1 => ?_
  exact h1 _ _ _ (Same.refl _) (own_set s1 hl np r)
end
end M
namespace M
open PySem PySem.Spec PyProof.Rows L2

/-! ### an expression as a statement -/
theorem pps_drop {X : Cx} {cl : Nat → Value} {W : WX} {F0 H0 : Hp} {a : Expr} {A : CE} {pos : Pos} (ha : PP X cl W a A) (hs : swapsWith a none pos.line X.env = pure false := by rfl) : PPS X cl W F0 H0 (.Expr a pos) (sDrop A) :=
  PS.imp (ps_expr ha hs) fun Dn σ H ⟨F, e, s, h⟩ => goSE s h fun d F1 H1 v x1 s1 r1 h1 => h1 _ _ _ (Same.refl _) s1
/-! ### dict(d), dict(pairs) -/
mutual
def hQ : D → Int
  | .int i => hashInt i
  | .tup l => reduceHash (Builtin.Tuple.tupleHashOf (hQs l))
  | .non => 0 | .bl _ => 0 | .str _ => 0 | .lst _ => 0 | .bor _ => 0 | .dct _ _ => 0 | .bdc _ _ => 0
def hQs : List D → List Int
  | [] => []
  | d :: l => hQ d :: hQs l
end
mutual
theorem hQ_eq (w : World) : ∀ d : D, isQ d = true → (toN d).hash w = hQ d
  | .int _, _ => rfl
  | .tup l, h => by simp only [toN, NestedKey.hash, hQ]; rw [hQs_eq w l h]
  | .non, h => nomatch h
  | .bl _, h => nomatch h
  | .str _, h => nomatch h
  | .lst _, h => nomatch h
  | .bor _, h => nomatch h
  | .dct _ _, h => nomatch h
  | .bdc _ _, h => nomatch h
theorem hQs_eq (w : World) : ∀ l : List D, allQ l = true → NestedKey.hashes w (toNL l) = hQs l
  | [], _ => rfl
  | x :: l, h => by
    have a := allQ_cons h
    simp only [toNL, NestedKey.hashes, hQs]
    rw [hQ_eq w x a.1, hQs_eq w l a.2]
end
def noI (k : Int) : List Int → Bool
  | [] => true
  | n :: l => (match PySem.W.Z.eqB n k with | true => false | false => noI k l)
def apI : List Int → Bool
  | [] => true
  | n :: l => (match noI n l with | true => apI l | false => false)
theorem noI_ok {k : Int} : ∀ {l : List Int}, noI k l = true → k ∉ l
  | [], _ => by simp
  | n :: l, h => by
    simp only [noI] at h
    cases z : PySem.W.Z.eqB n k with
    | true => rw [z] at h; cases h
    | false =>
      rw [z] at h
      have ne : k ≠ n := fun e => by rw [(PySem.W.Z.eqB_iff _ _).mpr e.symm] at z; cases z
      simp only [List.mem_cons, not_or]
      exact ⟨ne, noI_ok h⟩
theorem apI_ok : ∀ {l : List Int}, apI l = true → l.Nodup
  | [], _ => List.nodup_nil
  | n :: l, h => by
    simp only [apI] at h
    cases z : noI n l with
    | false => rw [z] at h; cases h
    | true => rw [z] at h; exact List.nodup_cons.mpr ⟨noI_ok z, apI_ok h⟩
theorem hQs_map : ∀ l : List D, hQs l = l.map hQ
  | [] => rfl
  | d :: l => by rw [hQs, hQs_map l]; rfl
def pairsK : List D → Option (List D × List D)
  | [] => some ([], [])
  | d :: l => (match d with
    | .tup p => (match p with
      | [] => none
      | k :: q => (match q with
        | [] => none
        | v :: r => (match r with
          | [] => (match kOk k with
            | true => (match pairsK l with | some (ks, vs) => some (k :: ks, v :: vs) | none => none)
            | false => none)
          | _ :: _ => none)))
    | _ => none)
def dsD (d : D) : Option (List D × List D) := match dctOf d with
  | some (ks, vs) => (match apI (hQs ks) with | true => some (ks, vs) | false => none)
  | none => (match frzOf d with
    | some l => (match Nat.ble l.length 900000 with
      | true => (match pairsK l with | some (ks, vs) => some (mrgK [] [] ks vs) | none => none)
      | false => none)
    | none => none)
def uDs (A : CE) : CU := fun e => (A e).bind fun d => match dsD d with
  | some (ks, vs) => .ok (.owd ks vs)
  | none => .bad
section
variable {X : Cx} {pins : List (Addr × Obj)} {σ : L2.St} {F H : Hp} {s : Shared}
theorem mk_pairs (I : Inv X pins σ H s) (sm : Same F H) : ∀ {l : List D} {vs : List V} {us : List Value} {ks ds : List D}, RdL X.K F l vs → Vals vs us → pairsK l = some (ks, ds) →
    ∃ (E0 : DE) (dus : List Value) (Ts : List Addr), RdE X.K F E0 ks ds ∧ Vals (E0.map (·.2.2)) dus ∧ E0.length = l.length ∧ Ts.length = l.length ∧ (∀ e ∈ E0, kOk e.1 = true) ∧ us = Ts.map Value.ref ∧
      ∀ (j : Nat) (e : D × Addr × V) (u : Value) (T : Addr), E0[j]? = some e → dus[j]? = some u → Ts[j]? = some T → s.heap.IsTuple T #[.ref e.2.1, u]
  | _, _, _, _, _, .nil, .nil, h => by
    cases h
    exact ⟨[], [], [], .nil, .nil, rfl, rfl, (fun _ h => (nomatch h)), rfl, fun j e u T h => by simp at h⟩
  | _, _, _, _, _, .cons (d := d) (l := l) r t, .cons rv tv, h => by
    cases d with
    | tup p =>
      match p, r, h with
      | [k, v], r, h =>
        simp only [pairsK] at h
        cases zk : kOk k with
        | false => rw [zk] at h; cases h
        | true =>
          rw [zk] at h
          cases zp : pairsK l with
          | none => rw [zp] at h; cases h
          | some q =>
            obtain ⟨ks', ds'⟩ := q
            rw [zp] at h
            cases h
            obtain ⟨E0, dus, Ts, i1, i2, i3, i4, i5, i6, i7⟩ := mk_pairs I sm t tv zp
            cases r with
            | tup t1 t2 =>
              cases rv
              obtain ⟨its, rits, pt, _⟩ := I.tuple (SqT.sameX sm t1)
              cases t2 with
              | cons rk t3 => cases t3 with | cons rd t4 =>
                cases t4
                cases rits with
                | @cons _ ku _ _ rku rt => cases rt with | @cons _ du _ _ rdu rn =>
                  cases rn
                  obtain ⟨b, rfl, rfl, ki⟩ := key_at I sm rk rku (kOk_ok zk)
                  refine ⟨_ :: E0, du :: dus, _ :: Ts, .cons rk rd i1, .cons rdu i2, by simp [i3], by simp [i4], fun e he => ?_, by rw [i6]; rfl, fun j e u T h1 h2 h3 => ?_⟩
                  · rcases List.mem_cons.mp he with rfl | he
                    · exact zk
                    · exact i5 e he
                  · cases j with
                    | zero => cases h1; cases h2; cases h3; exact pt
                    | succ j => exact i7 j e u T h1 h2 h3
    | _ => cases h
theorem plain_tup (I : Inv X pins σ H s) (sm : Same F H) {a : Addr} {vs : List V} (h : TupX X.K F a vs) : ∃ its : List Value, Vals vs its ∧ PlainSeq "tuple" s.heap a its.toArray := by
  rcases h with ⟨o, e, hd⟩ | ⟨o, its, n, hk, hc, hd, hs, hz, r⟩
  · obtain ⟨ho, _, its, r, ob, ho2, hc2, n, hd2⟩ := I.hok a _ (sm _ _ e)
    rw [ho] at ho2
    cases ho2
    exact ⟨its, r, o, n, ho, hc2, hd, hd2⟩
  · exact ⟨its.toList, r, o, n, I.kIn a o hk, hc, hd, by simpa using hs⟩
def rDs (K : PySem.W.Frag) : List V → Hp → VK → Prop := fun vs H Q => ∃ F d x ks ds, vs = [x] ∧ Same F H ∧ RdT K F H d x ∧ dsD d = some (ks, ds) ∧ ∀ p E, H p = none → RdE K F E ks ds → Q (.ref p) (upd H p (DctO p E))
theorem call_dictOf (hc : X.calm = true) (hu : X.A.units + 64 < cLine) : CallR X (.type "dict") (rDs X.K) := by
  intro pins s σ H xs us Q I r h
  obtain ⟨F, d, x, ks, ds, rfl, sm, ra, ed, q⟩ := h
  have big : (s.heap.objs.size == sysModules) = false := beq_eq_false_iff_ne.mpr (Ne.symm (Nat.ne_of_lt I.big))
  have hn : H s.heap.objs.size = none := I.hok.fresh (Nat.le_refl _)
  unfold dsD at ed
  cases z : dctOf d with
  | some pr =>
    obtain ⟨ks', ds'⟩ := pr
    rw [z] at ed
    simp only at ed
    cases za : apI (hQs ks') with
    | false => rw [za] at ed; cases ed
    | true =>
      rw [za] at ed
      cases ed
      obtain ⟨a, E, rfl, e1, rE⟩ := ra.dct sm z
      rw [Vals.ref1 r]
      obtain ⟨vs, rv, dd, hd, hl, hq⟩ := dofh I sm e1 rE
      have d0 := dct_of I e1
      have hlen : E.length = vs.length := by have := rv.length; simpa using this
      have hap : ((xsOf E vs).map fun x => (nestedKind X.prog X.w).hash x.1).Nodup := by
        have e : ((xsOf E vs).map fun x => (nestedKind X.prog X.w).hash x.1) = hQs ks := by
          rw [rE.ks, hQs_map, List.map_map]
          have : ((xsOf E vs).map fun x => (nestedKind X.prog X.w).hash x.1) = ((xsOf E vs).map (·.1)).map fun k => k.hash X.w := by rw [List.map_map]; rfl
          rw [this, xs_fst hlen, List.map_map]
          exact List.map_congr_left fun e he => hQ_eq X.w e.1 (hq e he)
        rw [e]; exact apI_ok za
      have htup : ∀ {h' : Heap}, (∀ b o, s.heap.get? b = some o → h'.get? b = some o) → ∀ x ∈ xsOf E vs, Shared.TypeIs { s with heap := h' } (.ref x.2.1) "tuple" := fun {h'} k x hx => by
        obtain ⟨e, he, q1, q2⟩ := xs_mem hx
        obtain ⟨b, z1, z2, z3⟩ := key_at I sm (rE.key e he) (u := .ref e.2.1) rfl (d0.1.2.2.2 e he)
        cases z1
        obtain ⟨o, ho, hcl⟩ := nestedKind_stays.tuple (s := s) z3
        rw [q2]
        exact ⟨o, k _ _ ho, hcl⟩
      have push : ∀ b o, s.heap.get? b = some o → (s.heap.push { cls := .type "dict", data := .dict #[] }).get? b = some o := fun b o e => Heap.get?_push_of_some _ e
      refine callType_codes (Q₁ := fun obj s₁ => obj = .ref s.heap.objs.size ∧ s₁ = { s with heap := s.heap.push { cls := .type "dict", data := .dict #[] } }) PySem.F.kt_called_dict (PySem.F.kt_typeCall_dict_1 _) PySem.F.entry_dict_init (kt_code_dict_new _ ⟨rfl, rfl⟩) ?_
      rintro obj s₁ ⟨rfl, rfl⟩
      have hnew : (s.heap.push { cls := .type "dict", data := .dict #[] }).DictOfH (nestedKind X.prog X.w) s.heap.objs.size [] := Heap.DictOfH.new s.heap
      have hdo : s.heap.objs.size ≠ a := by
        obtain ⟨_, _, _, hg, _⟩ := dd
        exact fun e => absurd (Heap.lt_size hg) (by rw [e]; exact Nat.lt_irrefl _)
      have dd' : (s.heap.push { cls := .type "dict", data := .dict #[] }).DictOfH (nestedKind X.prog X.w) a (xsOf E vs) := dd.at' (fun o e => push _ _ e) fun x hx => by
        obtain ⟨_, _, _, _, _, _, _, his, _⟩ := dd
        exact nestedKind_stays.stays (fun b o _ _ e _ => push b o e) (his x hx)
      refine ⟨hnew.typeIs, PySem.F.args_dict_init_2 _ _, ?_⟩
      unfold Builtin.«dict.__init__»
      refine wpAny_bind ?_
      unfold Builtin.Dict.selfAndRest
      refine wpAny_bind (wpAny_notOrdered_dict hnew.typeIs ?_)
      show wpAny _ _ (pure (s.heap.objs.size, [Value.ref a])) _ _ _
      refine wpAny_pure ?_
      refine updateFrom_dictH (A := X.A.in1) (s := { s with heap := s.heap.push { cls := .type "dict", data := .dict #[] } }) (knd := nestedKind X.prog X.w) .none (by show X.A.units + 1 + 1 + 8 < cLine; omega) hdo hd hnew dd' (.inr ⟨htup push, hap⟩) (by unfold xsOf; rw [List.length_zipWith, List.length_nil, sizeLine_eq]; omega) fun h' hd' _ hs' => ?_
      have keep : ∀ b o, s.heap.get? b = some o → h'.get? b = some o := fun b o e => (hs'.2 b (Nat.ne_of_lt (Heap.lt_size e))).trans (push b o e)
      rw [storedAllH_nil_of_nodup _ (by obtain ⟨_, _, _, _, _, _, _, _, hnd⟩ := dd; exact hnd)] at hd'
      exact ⟨rfl, .ref s.heap.objs.size, _, I.laid (t' := s.toks) keep (Nat.le_refl _) (dct_new big hl d0.1.2.2.1 d0.1.2.2.2 rv hd'), rfl, q _ _ hn rE⟩
  | none =>
    rw [z] at ed
    simp only at ed
    cases zf : frzOf d with
    | none => rw [zf] at ed; cases ed
    | some l =>
      rw [zf] at ed
      simp only at ed
      cases zl : Nat.ble l.length 900000 with
      | false => rw [zl] at ed; cases ed
      | true =>
        rw [zl] at ed
        simp only at ed
        cases zp : pairsK l with
        | none => rw [zp] at ed; cases ed
        | some pr =>
          obtain ⟨k0, d0⟩ := pr
          rw [zp] at ed
          have ed : mrgK [] [] k0 d0 = (ks, ds) := Option.some.inj ed
          have hln := Nat.le_of_ble_eq_true zl
          have rd : Rd X.K F d x := ra.rd (by cases d <;> first | rfl | cases zf)
          have core : ∀ {T : String} {p : Addr} {vs : List V} {its : List Value}, RdL X.K F l vs → Vals vs its → (P : ∀ (Ts : Nat → Addr) (ps : List (Value × Value)), PairArg X.prog X.w T p (p :: (List.range ps.length).map Ts) [] ps.length (PairRel ps) (fun h => PlainSeq T h p its.toArray ∧ PairItems h its.toArray Ts ps)) →
              PlainSeq T s.heap p its.toArray → wpAny (model X.prog X.w) X.A (call (.type "dict") [.ref p]) (EP X pins σ Q) X.xe s := fun {T p vs its} rl rv P hpl => by
            obtain ⟨E0, dus, Ts, i1, i2, i3, i4, i5, i6, i7⟩ := mk_pairs I sm rl rv zp
            have hdl : dus.length = E0.length := by have := i2.length; rw [List.length_map] at this; exact this.symm
            have hps : ∀ j k v, (List.zipWith (fun (e : D × Addr × V) u => (Value.ref e.2.1, u)) E0 dus)[j]? = some (k, v) → ∃ (e : D × Addr × V) (u : Value), E0[j]? = some e ∧ dus[j]? = some u ∧ k = Value.ref e.2.1 ∧ v = u := fun j k v h => by
              rw [List.getElem?_zipWith] at h
              cases h1 : E0[j]? with
              | none => rw [h1] at h; cases h
              | some e =>
                cases h2 : dus[j]? with
                | none => rw [h1, h2] at h; cases h
                | some u =>
                  rw [h1, h2] at h
                  cases h
                  exact ⟨e, _, by first | rfl | exact h1, by first | rfl | exact h2, rfl, rfl⟩
            have hpl2 : (List.zipWith (fun (e : D × Addr × V) u => (Value.ref e.2.1, u)) E0 dus).length = E0.length := by rw [List.length_zipWith]; omega
            refine call_dict_pairsH (A := X.A) (knd := nestedKind X.prog X.w) (ps := xsOf E0 dus) (P (fun j => (Ts[j]?).getD 0) (List.zipWith (fun (e : D × Addr × V) u => (Value.ref e.2.1, u)) E0 dus)) (I.ok.hd hc) (by show X.A.units + 1 + 1 + 8 < cLine; omega)
              ⟨hpl, by rw [hpl2, List.size_toArray, i6, List.length_map, i4, i3], fun j k v h => ?_⟩ ⟨by rw [hpl2]; unfold xsOf; rw [List.length_zipWith]; omega, fun j k v h => ?_⟩ (fun h2 hk2 x hx => ?_) (by rw [hpl2, sizeLine_eq]; omega) fun h' tk dd hk2 => ?_
            · obtain ⟨e, u, h1, h2, hk', hv'⟩ := hps j k v h
              subst hk' hv'
              have hj : j < Ts.length := by rw [i4, ← i3]; exact (List.getElem?_eq_some_iff.mp h1).1
              have hT := List.getElem?_eq_getElem hj
              refine ⟨?_, .inl ?_⟩
              · rw [i6]
                simp [hT]
              · show PySem.Heap.IsTuple _ ((Ts[j]?).getD 0) _
                rw [hT]
                exact i7 j e _ _ h1 h2 hT
            · obtain ⟨e, u, h1, h2, hk', hv'⟩ := hps j k v h
              subst hk' hv'
              refine ⟨toN e.1, e.2.1, ?_, rfl⟩
              unfold xsOf
              rw [List.getElem?_zipWith, h1, h2]
            · obtain ⟨e, he, q1, q2⟩ := xs_mem hx
              obtain ⟨bb, z1, z2, z3⟩ := key_at I sm (i1.key e he) (u := .ref e.2.1) rfl (kOk_ok (i5 e he))
              cases z1
              rw [q1, q2]
              refine ⟨NestedIs.at (fun b o vs n e3 _ => hk2 b o (fun q => ?_) (fun q => nomatch q) e3) _ _ z3.1, z3.2⟩
              have := Heap.lt_size e3
              rw [q] at this
              exact Nat.lt_irrefl _ this
            · obtain ⟨ob, rM⟩ := dict_done (F := F) (H := H) i1 i5 i2 (by rw [i3]; omega) big dd
              rw [ed] at rM
              exact ⟨.ref s.heap.objs.size, _, I.laid (t' := tk) (fun b o e => hk2 b o (fun q => nomatch q) e) (Nat.le_refl _) ob, rfl, q _ _ hn rM⟩
          cases d with
          | tup l2 =>
            cases zf
            cases rd with
            | tup t1 t2 =>
              rw [Vals.ref1 r]
              obtain ⟨its, rv, hp⟩ := plain_tup I sm t1
              exact core t2 rv (fun Ts ps => PairArg.tuple _ _ Ts ps) hp
          | lst l2 =>
            cases zf
            cases rd with
            | lst t1 t2 =>
              rw [Vals.ref1 r]
              obtain ⟨_, its, n, rv, _, e⟩ := I.lstM (sm _ _ t1)
              exact core t2 rv (fun Ts ps => PairArg.list _ _ Ts ps) ⟨_, n, e, rfl, rfl, rfl⟩
          | _ => cases zf
end
section
variable {X : Cx} {cl : Nat → Value} {W : WX} {a : Expr} {A : CE} {p pos : Pos}
theorem ppu_dseq (hc : X.calm = true) (hu : X.A.units + 64 < cLine) (hg : Gl X "dict") (hm : X.mg "dict" = none) (ha : PP X cl W a A) (hs : starEach [a] X.env = (false, eval a X.env) :: starEach [] X.env := by rfl) (hpl : (backTo pos (starEach [] X.env)).any (·.1) = false := by rfl) :
    PPU X cl W (.Call (.Name "dict" p) [a] [] pos) (uDs A) :=
  PE.imp (pe_callTy (call_dictOf hc hu) hg hm PyProof.Rows.boot_dict (pa_cons ha pa_nil hs) (by decide) (by decide) hs hpl) fun σ H Q ⟨F, e, st, h⟩ => by
    refine ⟨F, e, st, ?_⟩
    unfold uDs at h
    cases q : A e with
    | exc c => rw [q] at h; exact h
    | bad => rw [q] at h; exact h
    | ok d =>
      rw [q] at h
      intro F' H' v x r
      simp only [Res.bind] at h
      cases q1 : dsD d with
      | none => rw [q1] at h; exact h.elim
      | some pr =>
        obtain ⟨ks, ds⟩ := pr
        rw [q1] at h
        refine ⟨F', d, v, ks, ds, rfl, x.sub, r, q1, fun p E np rE => ?_⟩
        have w := Ext.add x.sub np (DctO p E)
        have nF : F' p = none := by
          cases q : F' p with
          | none => rfl
          | some o => rw [x.sub _ _ q] at np; cases np
        exact h F' _ (.ref p) (x.trans w) ⟨p, E, rfl, upd_same, nF, rE⟩ (fun _ b e => by cases e; exact x.h.free np)
end
end M
set_option maxHeartbeats 0
namespace Claim
open PySem PySem.Spec PyProof.Rows L2 M
/-! ### the text -/
def topS (i : Nat) : Stmt := PySem.Challenge.pw_picksuntold_k09_facts_by_hand_and_refuse.main.body.getD i (.Pass ⟨0, 0, 0, 0⟩)
section
def clsOf (ec0 ec1 : Addr) : Nat → Value
  | 0 => .ref ec0
  | _ => .ref ec1
def exm0 : Nat → Bool
  | 0 => true
  | _ => false
def exm1 : Nat → Bool
  | 0 => false
  | _ => true
def isEValueError : Nat → Bool
  | 0 => true
  | _ => true
end
section
variable {ec0 ec1 : Addr}
structure Tx0 (ec0 ec1 : Addr) (K : PySem.W.Frag) (mg : Str → Option Value) : Prop where
  z_ValueError : mg "ValueError" = none
  z_all : mg "all" = none
  z_any : mg "any" = none
  z_bool : mg "bool" = none
  z_enumerate : mg "enumerate" = none
  z_int : mg "int" = none
  z_isinstance : mg "isinstance" = none
  z_len : mg "len" = none
  z_list : mg "list" = none
  z_min : mg "min" = none
  z_range : mg "range" = none
  z_set : mg "set" = none
  z_sorted : mg "sorted" = none
  z_str : mg "str" = none
  z_tuple : mg "tuple" = none
  z_zip : mg "zip" = none
  k_PAIR : ∃ t, mg "PAIR" = some (.int 2 t)
  f__law_lists : ∃ (f : Addr) (fd : FuncData), mg "_law_lists" = some (.ref f) ∧ Fun K "_law_lists" "_law_lists" (topS 61) f fd ∧ Binds K fd ["matter"] []
  f__law_named : ∃ (f : Addr) (fd : FuncData), mg "_law_named" = some (.ref f) ∧ Fun K "_law_named" "_law_named" (topS 62) f fd ∧ Binds K fd [] []
  f__law_same : ∃ (f : Addr) (fd : FuncData), mg "_law_same" = some (.ref f) ∧ Fun K "_law_same" "_law_same" (topS 60) f fd ∧ Binds K fd ["got", "due"] []
  f_all_goods : ∃ (f : Addr) (fd : FuncData), mg "all_goods" = some (.ref f) ∧ Fun K "all_goods" "all_goods" (topS 16) f fd ∧ Binds K fd ["n"] []
  f_set_of : ∃ (f : Addr) (fd : FuncData), mg "set_of" = some (.ref f) ∧ Fun K "set_of" "set_of" (topS 9) f fd ∧ Binds K fd ["things"] []
  f_tupled : ∃ (f : Addr) (fd : FuncData), mg "tupled" = some (.ref f) ∧ Fun K "tupled" "tupled" (topS 4) f fd ∧ Binds K fd ["thing"] []
  f_in_order : ∃ (f : Addr) (fd : FuncData), mg "in_order" = some (.ref f) ∧ Fun K "in_order" "in_order" (topS 18) f fd ∧ Binds K fd ["lots"] []
  f_is_number : ∃ (f : Addr) (fd : FuncData), mg "is_number" = some (.ref f) ∧ Fun K "is_number" "is_number" (topS 5) f fd ∧ Binds K fd ["thing"] []
  f_is_count : ∃ (f : Addr) (fd : FuncData), mg "is_count" = some (.ref f) ∧ Fun K "is_count" "is_count" (topS 6) f fd ∧ Binds K fd ["thing"] []
  f_is_below : ∃ (f : Addr) (fd : FuncData), mg "is_below" = some (.ref f) ∧ Fun K "is_below" "is_below" (topS 7) f fd ∧ Binds K fd ["thing", "bound"] []
  f_rises : ∃ (f : Addr) (fd : FuncData), mg "rises" = some (.ref f) ∧ Fun K "rises" "rises" (topS 10) f fd ∧ Binds K fd ["things"] []
  f_is_lot : ∃ (f : Addr) (fd : FuncData), mg "is_lot" = some (.ref f) ∧ Fun K "is_lot" "is_lot" (topS 13) f fd ∧ Binds K fd ["n", "thing"] []
  f_is_family : ∃ (f : Addr) (fd : FuncData), mg "is_family" = some (.ref f) ∧ Fun K "is_family" "is_family" (topS 34) f fd ∧ Binds K fd ["n", "thing"] []
  f_sure_goods : ∃ (f : Addr) (fd : FuncData), mg "sure_goods" = some (.ref f) ∧ Fun K "sure_goods" "sure_goods" (topS 29) f fd ∧ Binds K fd ["n"] []
  f_sure_family : ∃ (f : Addr) (fd : FuncData), mg "sure_family" = some (.ref f) ∧ Fun K "sure_family" "sure_family" (topS 35) f fd ∧ Binds K fd ["n", "family"] []
  f_family_met : ∃ (f : Addr) (fd : FuncData), mg "family_met" = some (.ref f) ∧ Fun K "family_met" "family_met" (topS 51) f fd ∧ Binds K fd ["n", "family", "other"] []
  f_is_part : ∃ (f : Addr) (fd : FuncData), mg "is_part" = some (.ref f) ∧ Fun K "is_part" "is_part" (topS 19) f fd ∧ Binds K fd ["one", "other"] []
  f_is_tuple_of : ∃ (f : Addr) (fd : FuncData), mg "is_tuple_of" = some (.ref f) ∧ Fun K "is_tuple_of" "is_tuple_of" (topS 8) f fd ∧ Binds K fd ["thing", "length"] []
  f_is_menu : ∃ (f : Addr) (fd : FuncData), mg "is_menu" = some (.ref f) ∧ Fun K "is_menu" "is_menu" (topS 14) f fd ∧ Binds K fd ["n", "thing"] []
  f_is_fact : ∃ (f : Addr) (fd : FuncData), mg "is_fact" = some (.ref f) ∧ Fun K "is_fact" "is_fact" (topS 27) f fd ∧ Binds K fd ["n", "thing"] []
  f_are_facts : ∃ (f : Addr) (fd : FuncData), mg "are_facts" = some (.ref f) ∧ Fun K "are_facts" "are_facts" (topS 28) f fd ∧ Binds K fd ["n", "thing"] []
  f_sure_facts : ∃ (f : Addr) (fd : FuncData), mg "sure_facts" = some (.ref f) ∧ Fun K "sure_facts" "sure_facts" (topS 30) f fd ∧ Binds K fd ["n", "facts"] []
  f_is_stuck_set : ∃ (f : Addr) (fd : FuncData), mg "is_stuck_set" = some (.ref f) ∧ Fun K "is_stuck_set" "is_stuck_set" (topS 45) f fd ∧ Binds K fd ["n", "facts", "thing"] []
  f_lets : ∃ (f : Addr) (fd : FuncData), mg "lets" = some (.ref f) ∧ Fun K "lets" "lets" (topS 31) f fd ∧ Binds K fd ["facts", "lot"] []
  f_sets_of : ∃ (f : Addr) (fd : FuncData), mg "sets_of" = some (.ref f) ∧ Fun K "sets_of" "sets_of" (topS 11) f fd ∧ Binds K fd ["things"] []
  f_lots_of : ∃ (f : Addr) (fd : FuncData), mg "lots_of" = some (.ref f) ∧ Fun K "lots_of" "lots_of" (topS 17) f fd ∧ Binds K fd ["n"] []
  f_let_lots : ∃ (f : Addr) (fd : FuncData), mg "let_lots" = some (.ref f) ∧ Fun K "let_lots" "let_lots" (topS 33) f fd ∧ Binds K fd ["n", "facts"] []
  f_ways_on : ∃ (f : Addr) (fd : FuncData), mg "ways_on" = some (.ref f) ∧ Fun K "ways_on" "ways_on" (topS 46) f fd ∧ Binds K fd ["n", "family", "lot"] []
  f_orders_from : ∃ (f : Addr) (fd : FuncData), mg "orders_from" = some (.ref f) ∧ Fun K "orders_from" "orders_from" (topS 47) f fd ∧ Binds K fd ["n", "family", "row"] []
  f_let_orders : ∃ (f : Addr) (fd : FuncData), mg "let_orders" = some (.ref f) ∧ Fun K "let_orders" "let_orders" (topS 48) f fd ∧ Binds K fd ["n", "family"] []
  f_is_order : ∃ (f : Addr) (fd : FuncData), mg "is_order" = some (.ref f) ∧ Fun K "is_order" "is_order" (topS 21) f fd ∧ Binds K fd ["n", "thing"] []
  f_order_told : ∃ (f : Addr) (fd : FuncData), mg "order_told" = some (.ref f) ∧ Fun K "order_told" "order_told" (topS 36) f fd ∧ Binds K fd ["n", "order"] []
  f_line_family : ∃ (f : Addr) (fd : FuncData), mg "line_family" = some (.ref f) ∧ Fun K "line_family" "line_family" (topS 52) f fd ∧ Binds K fd ["n", "line"] []
  f_lots_reached : ∃ (f : Addr) (fd : FuncData), mg "lots_reached" = some (.ref f) ∧ Fun K "lots_reached" "lots_reached" (topS 49) f fd ∧ Binds K fd ["n", "family"] []
  f_reached_lots : ∃ (f : Addr) (fd : FuncData), mg "reached_lots" = some (.ref f) ∧ Fun K "reached_lots" "reached_lots" (topS 50) f fd ∧ Binds K fd ["n", "family"] []
  f_laid_from : ∃ (f : Addr) (fd : FuncData), mg "laid_from" = some (.ref f) ∧ Fun K "laid_from" "laid_from" (topS 40) f fd ∧ Binds K fd ["facts", "row", "goods"] []
  f_laid : ∃ (f : Addr) (fd : FuncData), mg "laid" = some (.ref f) ∧ Fun K "laid" "laid" (topS 41) f fd ∧ Binds K fd ["n", "facts"] []
  f_some_order : ∃ (f : Addr) (fd : FuncData), mg "some_order" = some (.ref f) ∧ Fun K "some_order" "some_order" (topS 42) f fd ∧ Binds K fd ["n", "facts"] []
  f_waits_by : ∃ (f : Addr) (fd : FuncData), mg "waits_by" = some (.ref f) ∧ Fun K "waits_by" "waits_by" (topS 43) f fd ∧ Binds K fd ["facts", "good", "left"] []
  f_stuck_set : ∃ (f : Addr) (fd : FuncData), mg "stuck_set" = some (.ref f) ∧ Fun K "stuck_set" "stuck_set" (topS 44) f fd ∧ Binds K fd ["n", "facts"] []
  f__law_orders_right : ∃ (f : Addr) (fd : FuncData), mg "_law_orders_right" = some (.ref f) ∧ Fun K "_law_orders_right" "_law_orders_right" (topS 64) f fd ∧ Binds K fd [] []
  f_picked_in : ∃ (f : Addr) (fd : FuncData), mg "picked_in" = some (.ref f) ∧ Fun K "picked_in" "picked_in" (topS 53) f fd ∧ Binds K fd ["n", "facts", "menu"] []
  f_breaking_order : ∃ (f : Addr) (fd : FuncData), mg "breaking_order" = some (.ref f) ∧ Fun K "breaking_order" "breaking_order" (topS 56) f fd ∧ Binds K fd ["n", "facts", "fact"] []
  f_can_be_picked : ∃ (f : Addr) (fd : FuncData), mg "can_be_picked" = some (.ref f) ∧ Fun K "can_be_picked" "can_be_picked" (topS 54) f fd ∧ Binds K fd ["n", "facts", "menu"] []
  f_fact_follows : ∃ (f : Addr) (fd : FuncData), mg "fact_follows" = some (.ref f) ∧ Fun K "fact_follows" "fact_follows" (topS 55) f fd ∧ Binds K fd ["n", "facts", "fact"] []
  f_told_order : ∃ (f : Addr) (fd : FuncData), mg "told_order" = some (.ref f) ∧ Fun K "told_order" "told_order" (topS 22) f fd ∧ Binds K fd ["order"] []
  f_best_of : ∃ (f : Addr) (fd : FuncData), mg "best_of" = some (.ref f) ∧ Fun K "best_of" "best_of" (topS 23) f fd ∧ Binds K fd ["order", "menu"] []
  f_picks_all : ∃ (f : Addr) (fd : FuncData), mg "picks_all" = some (.ref f) ∧ Fun K "picks_all" "picks_all" (topS 38) f fd ∧ Binds K fd ["facts", "order"] []
  f_is_breaking_order : ∃ (f : Addr) (fd : FuncData), mg "is_breaking_order" = some (.ref f) ∧ Fun K "is_breaking_order" "is_breaking_order" (topS 57) f fd ∧ Binds K fd ["n", "facts", "fact", "thing"] []
  f_needless_told_facts : ∃ (f : Addr) (fd : FuncData), mg "needless_told_facts" = some (.ref f) ∧ Fun K "needless_told_facts" "needless_told_facts" (topS 58) f fd ∧ Binds K fd ["n", "facts"] []
  f__law_picked_right : ∃ (f : Addr) (fd : FuncData), mg "_law_picked_right" = some (.ref f) ∧ Fun K "_law_picked_right" "_law_picked_right" (topS 65) f fd ∧ Binds K fd [] []
  f_lots_ahead : ∃ (f : Addr) (fd : FuncData), mg "lots_ahead" = some (.ref f) ∧ Fun K "lots_ahead" "lots_ahead" (topS 24) f fd ∧ Binds K fd ["order"] []
  f_is_let : ∃ (f : Addr) (fd : FuncData), mg "is_let" = some (.ref f) ∧ Fun K "is_let" "is_let" (topS 37) f fd ∧ Binds K fd ["n", "family", "order"] []
  f_keeps_facts : ∃ (f : Addr) (fd : FuncData), mg "keeps_facts" = some (.ref f) ∧ Fun K "keeps_facts" "keeps_facts" (topS 39) f fd ∧ Binds K fd ["n", "facts", "order"] []
  f_sure_lot : ∃ (f : Addr) (fd : FuncData), mg "sure_lot" = some (.ref f) ∧ Fun K "sure_lot" "sure_lot" (topS 15) f fd ∧ Binds K fd ["n", "lot"] []
  f_lets_lot : ∃ (f : Addr) (fd : FuncData), mg "lets_lot" = some (.ref f) ∧ Fun K "lets_lot" "lets_lot" (topS 32) f fd ∧ Binds K fd ["n", "facts", "lot"] []
  f__law_heard : ∃ (f : Addr) (fd : FuncData), mg "_law_heard" = some (.ref f) ∧ Fun K "_law_heard" "_law_heard" (topS 66) f fd ∧ Binds K fd ["door", "n", "facts", "more"] []
  f__law_refused_right : ∃ (f : Addr) (fd : FuncData), mg "_law_refused_right" = some (.ref f) ∧ Fun K "_law_refused_right" "_law_refused_right" (topS 67) f fd ∧ Binds K fd [] []
  f__law_things_right : ∃ (f : Addr) (fd : FuncData), mg "_law_things_right" = some (.ref f) ∧ Fun K "_law_things_right" "_law_things_right" (topS 63) f fd ∧ Binds K fd [] []
  o_Unfit : Own K mg "Unfit" ec0 [.type "ValueError", .type "Exception", .type "BaseException", .type "object"] "ValueError.__new__"
  ex_Unfit : ExF K (clsOf ec0 ec1) (.ref ec0) exm0
  o_NoPaper : Own K mg "NoPaper" ec1 [.type "ValueError", .type "Exception", .type "BaseException", .type "object"] "ValueError.__new__"
  ex_NoPaper : ExF K (clsOf ec0 ec1) (.ref ec1) exm1
  is_ValueError : ExI K (clsOf ec0 ec1) "ValueError" isEValueError
variable {P : Program} {w : World} {K : PySem.W.Frag} {mg : Str → Option Value} {base : Heap}
/-! _law_lists -/
theorem sc__law_lists : FnScope ["matter", "bit"] ["matter"] (defScope (topS 61)) := ⟨rfl, rfl, rfl, by decide +kernel, rfl, by decide +kernel, by decide +kernel⟩
def b__law_lists (m : List D → Res D) : CS := (sRet (cIf (tV (c1 (isiTD [.list, .tuple]) (cV 0))) (cN (nLcE (iA (cV 0)) [1] (gN 1) tYesC (cCall m (aC (cV 1) aN)))) (cV 0)))
def m__law_lists : Nat → List D → Res D
  | 0 => fun _ => .bad
  | j + 1 => cDef 1 1 (b__law_lists (m__law_lists j))
theorem solid__law_lists : ∀ j, Solid (m__law_lists j)
  | 0 => solid_bad
  | _ + 1 => solid_def _ _ _
theorem st__law_lists (T : Tx0 ec0 ec1 K mg) {k : Nat} (hk : 0 ≤ k) {m : List D → Res D} (hm : Solid m) (ih : Fm P w K mg base (clsOf ec0 ec1) k "_law_lists" (topS 61) ["matter"] m) : Fm P w K mg base (clsOf ec0 ec1) (k + 1) "_law_lists" (topS 61) ["matter"] (cDef 1 1 (b__law_lists m)) := by
  obtain ⟨f, fd, h1, h2, h3⟩ := T.f__law_lists
  exact fm_def (k := k) h2 sc__law_lists h1 h3 rfl rfl fun cdv A outer s H E Fz hr => (ppss_one (pps_ret (pp_if (ppt_val (pp_isi2 (t1 := .list) (t2 := .tuple) rfl T.z_isinstance rfl T.z_list rfl rfl T.z_tuple rfl (pp_pv 0))) (PPN.pp (ppn_lcE (own := [("bit", 1)]) rfl rfl (takes_of rfl rfl rfl rfl) rfl sc__law_lists.nd (ppi_seq (pp_pv 0)) (blk_of rfl (by rfl)) (fun _ _ _ _ _ _ => (ppgw_name (i := 1) sc__law_lists.nd rfl (by first | exact .inl rfl | exact .inr rfl) (by decide))) (fun _ _ _ _ _ _ _ tkB => ppts_nil) (fun _ _ _ _ _ _ _ tkB => (pp_call ih hm hr tkB rfl (ppa_cons (pp_pv 1) ppa_nil))))) (pp_pv 0))))
theorem fm__law_lists (T : Tx0 ec0 ec1 K mg) : ∀ j, Fm P w K mg base (clsOf ec0 ec1) (0 + j) "_law_lists" (topS 61) ["matter"] (m__law_lists j) := fm_rec (by obtain ⟨f, fd, h1, h2, h3⟩ := T.f__law_lists; exact fm_bad h2 h1 h3) fun j ih => st__law_lists T (Nat.le_add_right _ _) (solid__law_lists j) ih
/-! _law_named -/
theorem sc__law_named : FnScope [] [] (defScope (topS 62)) := ⟨rfl, rfl, rfl, by decide +kernel, rfl, by decide +kernel, by decide +kernel⟩
def b__law_named : CS := (sRet (cTup (aC (cTup (aC (cTup (aC (cTup (aC (cC (.int 0)) (aC (cC (.int 1)) aN))) (aC (cTup (aC (cC (.int 0)) aN)) aN))) aN)) (aC (cTup (aC (cTup (aC (cTup (aC (cC (.int 0)) (aC (cC (.int 1)) aN))) (aC (cTup (aC (cC (.int 0)) aN)) aN))) (aC (cTup (aC (cTup (aC (cC (.int 1)) (aC (cC (.int 2)) aN))) (aC (cTup (aC (cC (.int 1)) aN)) aN))) (aC (cTup (aC (cTup (aC (cC (.int 0)) (aC (cC (.int 2)) aN))) (aC (cTup (aC (cC (.int 2)) aN)) aN))) aN)))) (aC (cTup (aC (cTup (aC (cTup (aC (cC (.int 0)) (aC (cC (.int 1)) aN))) (aC (cTup (aC (cC (.int 0)) (aC (cC (.int 1)) aN))) aN))) aN)) (aC (cTup (aC (cTup (aC (cTup (aC (cC (.int 0)) (aC (cC (.int 1)) aN))) (aC (cTup aN) aN))) aN)) aN))))))
def m__law_named : List D → Res D := cDef 0 0 b__law_named
theorem solid__law_named : Solid m__law_named := solid_def _ _ _
theorem fm__law_named (T : Tx0 ec0 ec1 K mg) : Fm P w K mg base (clsOf ec0 ec1) 1 "_law_named" (topS 62) [] m__law_named := by
  obtain ⟨f, fd, h1, h2, h3⟩ := T.f__law_named
  exact fm_def (k := 0) h2 sc__law_named h1 h3 rfl rfl fun cdv A outer s H E Fz hr => (ppss_one (pps_ret (pp_tup (ppa_cons (pp_tup (ppa_cons (pp_tup (ppa_cons (pp_tup (ppa_cons pp_int (ppa_cons pp_int ppa_nil))) (ppa_cons (pp_tup (ppa_cons pp_int ppa_nil)) ppa_nil))) ppa_nil)) (ppa_cons (pp_tup (ppa_cons (pp_tup (ppa_cons (pp_tup (ppa_cons pp_int (ppa_cons pp_int ppa_nil))) (ppa_cons (pp_tup (ppa_cons pp_int ppa_nil)) ppa_nil))) (ppa_cons (pp_tup (ppa_cons (pp_tup (ppa_cons pp_int (ppa_cons pp_int ppa_nil))) (ppa_cons (pp_tup (ppa_cons pp_int ppa_nil)) ppa_nil))) (ppa_cons (pp_tup (ppa_cons (pp_tup (ppa_cons pp_int (ppa_cons pp_int ppa_nil))) (ppa_cons (pp_tup (ppa_cons pp_int ppa_nil)) ppa_nil))) ppa_nil)))) (ppa_cons (pp_tup (ppa_cons (pp_tup (ppa_cons (pp_tup (ppa_cons pp_int (ppa_cons pp_int ppa_nil))) (ppa_cons (pp_tup (ppa_cons pp_int (ppa_cons pp_int ppa_nil))) ppa_nil))) ppa_nil)) (ppa_cons (pp_tup (ppa_cons (pp_tup (ppa_cons (pp_tup (ppa_cons pp_int (ppa_cons pp_int ppa_nil))) (ppa_cons (pp_tup ppa_nil) ppa_nil))) ppa_nil)) ppa_nil)))))))
/-! _law_same -/
theorem sc__law_same : FnScope ["got", "due", "mine", "its"] ["got", "due"] (defScope (topS 60)) := ⟨rfl, rfl, rfl, by decide +kernel, rfl, by decide +kernel, by decide +kernel⟩
def b__law_same (m : List D → Res D) : CS := (sSeq (sIf (tV (c1 (isiTD [.list, .tuple]) (cV 1))) (sSeq (sIf (tOr (tV (c2 neD (c1 (isiD .list) (cV 0)) (c1 (isiD .list) (cV 1)))) (tV (c2 neD (c1 (isiD .tuple) (cV 0)) (c1 (isiD .tuple) (cV 1))))) (sRet (cC (.bl false))) sNx)
    (sRet (cAnd (c2 eqD (c1 lenD (cV 0)) (c1 lenD (cV 1))) (c1 allD (cN (nLcE (iR zipD2 (aC (cV 0) (aC (cV 1) aN))) [2, 3] (gT (gsC (gN 2) (gsC (gN 3) gsN))) tYesC (cCall m (aC (cV 2) (aC (cV 3) aN))))))))) sNx)
    (sSeq (sIf (tOr (tV (c1 isNonD (cV 1))) (tV (c1 (isiTD [.bool, .str]) (cV 1)))) (sRet (cAnd (c2 eqD (cV 0) (cV 1)) (cAnd (c2 eqD (c1 (isiD .bool) (cV 0)) (c1 (isiD .bool) (cV 1))) (c2 eqD (c1 isNonD (cV 0)) (c1 isNonD (cV 1)))))) sNx)
    (sRet (cAnd (c1 (isiD .int) (cV 0)) (cAnd (cNot (c1 (isiD .bool) (cV 0))) (c2 eqD (cV 0) (cV 1)))))))
def m__law_same : Nat → List D → Res D
  | 0 => fun _ => .bad
  | j + 1 => cDef 2 2 (b__law_same (m__law_same j))
theorem solid__law_same : ∀ j, Solid (m__law_same j)
  | 0 => solid_bad
  | _ + 1 => solid_def _ _ _
theorem st__law_same (T : Tx0 ec0 ec1 K mg) {k : Nat} (hk : 0 ≤ k) {m : List D → Res D} (hm : Solid m) (ih : Fm P w K mg base (clsOf ec0 ec1) k "_law_same" (topS 60) ["got", "due"] m) : Fm P w K mg base (clsOf ec0 ec1) (k + 1) "_law_same" (topS 60) ["got", "due"] (cDef 2 2 (b__law_same m)) := by
  obtain ⟨f, fd, h1, h2, h3⟩ := T.f__law_same
  exact fm_def (k := k) h2 sc__law_same h1 h3 rfl rfl fun cdv A outer s H E Fz hr => (ppss_cons (pps_if (ppt_val (pp_isi2 (t1 := .list) (t2 := .tuple) rfl T.z_isinstance rfl T.z_list rfl rfl T.z_tuple rfl (pp_pv 1))) (ppss_cons (pps_if (PPW.pt (ppw_or (ppt_cmp (op_neP hr.units) (pp_isi (t := .list) rfl T.z_isinstance rfl T.z_list rfl (pp_pv 0)) (pp_isi (t := .list) rfl T.z_isinstance rfl T.z_list rfl (pp_pv 1)) (nomark _)) (ppw_or1 (ppt_cmp (op_neP hr.units) (pp_isi (t := .tuple) rfl T.z_isinstance rfl T.z_tuple rfl (pp_pv 0)) (pp_isi (t := .tuple) rfl T.z_isinstance rfl T.z_tuple rfl (pp_pv 1)) (nomark _))))) (ppss_one (pps_ret pp_bl)) ppss_nil)
    (ppss_one (pps_ret (pp_and (pp_cmp (op_eqP hr.units) (pp_b1 call_lenP rfl T.z_len rfl (pp_pv 0)) (pp_b1 call_lenP rfl T.z_len rfl (pp_pv 1)) (nomark _)) (pp_one (pp_b1 (call_allP rfl) rfl T.z_all rfl (PPN.pp (ppn_lcE (own := [("mine", 2), ("its", 3)]) rfl rfl (takes_of rfl rfl rfl rfl) rfl sc__law_same.nd (ppi_zip2 rfl T.z_zip (ppa_cons (pp_pv 0) (ppa_cons (pp_pv 1) ppa_nil))) (blk_of rfl (by rfl)) (fun _ _ _ _ _ _ => (ppgw_tup rfl (ppgws_cons (ppgw_name (i := 2) sc__law_same.nd rfl (by first | exact .inl rfl | exact .inr rfl) (by decide)) (ppgws_cons (ppgw_name (i := 3) sc__law_same.nd rfl (by first | exact .inl rfl | exact .inr rfl) (by decide)) ppgws_nil)))) (fun _ _ _ _ _ _ _ tkB => ppts_nil) (fun _ _ _ _ _ _ _ tkB => (pp_call ih hm hr tkB rfl (ppa_cons (pp_pv 2) (ppa_cons (pp_pv 3) ppa_nil)))))))))))) ppss_nil)
    (ppss_cons (pps_if (PPW.pt (ppw_or (ppt_isN (pp_pv 1)) (ppw_or1 (ppt_val (pp_isi2 (t1 := .bool) (t2 := .str) rfl T.z_isinstance rfl T.z_bool rfl rfl T.z_str rfl (pp_pv 1)))))) (ppss_one (pps_ret (pp_and (pp_cmp (op_eqP hr.units) (pp_pv 0) (pp_pv 1) (nomark _)) (pp_and (pp_cmp (op_eqP hr.units) (pp_isi (t := .bool) rfl T.z_isinstance rfl T.z_bool rfl (pp_pv 0)) (pp_isi (t := .bool) rfl T.z_isinstance rfl T.z_bool rfl (pp_pv 1)) (nomark _)) (pp_one (pp_cmp (op_eqP hr.units) (pp_isN (pp_pv 0)) (pp_isN (pp_pv 1)) (nomark _))))))) ppss_nil)
    (ppss_one (pps_ret (pp_and (pp_isi (t := .int) rfl T.z_isinstance rfl T.z_int rfl (pp_pv 0)) (pp_and (pp_not (pp_isi (t := .bool) rfl T.z_isinstance rfl T.z_bool rfl (pp_pv 0))) (pp_one (pp_cmp (op_eqP hr.units) (pp_pv 0) (pp_pv 1) (nomark _)))))))))
theorem fm__law_same (T : Tx0 ec0 ec1 K mg) : ∀ j, Fm P w K mg base (clsOf ec0 ec1) (0 + j) "_law_same" (topS 60) ["got", "due"] (m__law_same j) := fm_rec (by obtain ⟨f, fd, h1, h2, h3⟩ := T.f__law_same; exact fm_bad h2 h1 h3) fun j ih => st__law_same T (Nat.le_add_right _ _) (solid__law_same j) ih
/-! all_goods -/
theorem sc_all_goods : FnScope ["n"] ["n"] (defScope (topS 16)) := ⟨rfl, rfl, rfl, by decide +kernel, rfl, by decide +kernel, by decide +kernel⟩
def b_all_goods : CS := (sRet (c1 tupleD (cN (nRng1 (cV 0)))))
def m_all_goods : List D → Res D := cDef 1 0 b_all_goods
theorem solid_all_goods : Solid m_all_goods := solid_def _ _ _
theorem fm_all_goods (T : Tx0 ec0 ec1 K mg) : Fm P w K mg base (clsOf ec0 ec1) 1 "all_goods" (topS 16) ["n"] m_all_goods := by
  obtain ⟨f, fd, h1, h2, h3⟩ := T.f_all_goods
  exact fm_def (k := 0) h2 sc_all_goods h1 h3 rfl rfl fun cdv A outer s H E Fz hr => (ppss_one (pps_ret (pp_ty1 call_tupleP rfl T.z_tuple rfl (PPN.pp (ppn_lrng1 rfl rfl T.z_list rfl T.z_range (pp_pv 0))))))
/-! set_of -/
theorem sc_set_of : FnScope ["things"] ["things"] (defScope (topS 9)) := ⟨rfl, rfl, rfl, by decide +kernel, rfl, by decide +kernel, by decide +kernel⟩
def b_set_of : CS := (sRet (c1 tupleD (cN (nSS (cV 0)))))
def m_set_of : List D → Res D := cDef 1 0 b_set_of
theorem solid_set_of : Solid m_set_of := solid_def _ _ _
theorem fm_set_of (T : Tx0 ec0 ec1 K mg) : Fm P w K mg base (clsOf ec0 ec1) 1 "set_of" (topS 9) ["things"] m_set_of := by
  obtain ⟨f, fd, h1, h2, h3⟩ := T.f_set_of
  exact fm_def (k := 0) h2 sc_set_of h1 h3 rfl rfl fun cdv A outer s H E Fz hr => (ppss_one (pps_ret (pp_ty1 call_tupleP rfl T.z_tuple rfl (PPN.pp (ppn_sortset rfl hr.units rfl T.z_sorted rfl T.z_set (pp_pv 0))))))
/-! tupled -/
theorem sc_tupled : FnScope ["thing", "part"] ["thing"] (defScope (topS 4)) := ⟨rfl, rfl, rfl, by decide +kernel, rfl, by decide +kernel, by decide +kernel⟩
def b_tupled (m : List D → Res D) : CS := (sRet (cIf (tV (c1 (isiTD [.list, .tuple]) (cV 0))) (c1 tupleD (cN (nLcE (iA (cV 0)) [1] (gN 1) tYesC (cCall m (aC (cV 1) aN))))) (cV 0)))
def m_tupled : Nat → List D → Res D
  | 0 => fun _ => .bad
  | j + 1 => cDef 1 1 (b_tupled (m_tupled j))
theorem solid_tupled : ∀ j, Solid (m_tupled j)
  | 0 => solid_bad
  | _ + 1 => solid_def _ _ _
theorem st_tupled (T : Tx0 ec0 ec1 K mg) {k : Nat} (hk : 0 ≤ k) {m : List D → Res D} (hm : Solid m) (ih : Fm P w K mg base (clsOf ec0 ec1) k "tupled" (topS 4) ["thing"] m) : Fm P w K mg base (clsOf ec0 ec1) (k + 1) "tupled" (topS 4) ["thing"] (cDef 1 1 (b_tupled m)) := by
  obtain ⟨f, fd, h1, h2, h3⟩ := T.f_tupled
  exact fm_def (k := k) h2 sc_tupled h1 h3 rfl rfl fun cdv A outer s H E Fz hr => (ppss_one (pps_ret (pp_if (ppt_val (pp_isi2 (t1 := .list) (t2 := .tuple) rfl T.z_isinstance rfl T.z_list rfl rfl T.z_tuple rfl (pp_pv 0))) (pp_ty1 call_tupleP rfl T.z_tuple rfl (PPN.pp (ppn_lcE (own := [("part", 1)]) rfl rfl (takes_of rfl rfl rfl rfl) rfl sc_tupled.nd (ppi_seq (pp_pv 0)) (blk_of rfl (by rfl)) (fun _ _ _ _ _ _ => (ppgw_name (i := 1) sc_tupled.nd rfl (by first | exact .inl rfl | exact .inr rfl) (by decide))) (fun _ _ _ _ _ _ _ tkB => ppts_nil) (fun _ _ _ _ _ _ _ tkB => (pp_call ih hm hr tkB rfl (ppa_cons (pp_pv 1) ppa_nil)))))) (pp_pv 0))))
theorem fm_tupled (T : Tx0 ec0 ec1 K mg) : ∀ j, Fm P w K mg base (clsOf ec0 ec1) (0 + j) "tupled" (topS 4) ["thing"] (m_tupled j) := fm_rec (by obtain ⟨f, fd, h1, h2, h3⟩ := T.f_tupled; exact fm_bad h2 h1 h3) fun j ih => st_tupled T (Nat.le_add_right _ _) (solid_tupled j) ih
/-! in_order -/
theorem sc_in_order : FnScope ["lots", "_", "lot"] ["lots"] (defScope (topS 18)) := ⟨rfl, rfl, rfl, by decide +kernel, rfl, by decide +kernel, by decide +kernel⟩
def b_in_order : CS := (sRet (c1 tupleD (cN (nLc (iA (cCall m_set_of (aC (cN (nLc (iA (cCall (m_tupled 14) (aC (cV 0) aN))) [2] (gN 2) tYesC (cTup (aC (c1 lenD (cV 2)) (aC (cV 2) aN))))) aN))) [1, 2] (gT (gsC (gN 1) (gsC (gN 2) gsN))) tYesC (cV 2)))))
def m_in_order : List D → Res D := cDef 1 2 b_in_order
theorem solid_in_order : Solid m_in_order := solid_def _ _ _
theorem fm_in_order (T : Tx0 ec0 ec1 K mg) : Fm P w K mg base (clsOf ec0 ec1) 15 "in_order" (topS 18) ["lots"] m_in_order := by
  obtain ⟨f, fd, h1, h2, h3⟩ := T.f_in_order
  exact fm_def (k := 14) h2 sc_in_order h1 h3 rfl rfl fun cdv A outer s H E Fz hr => (ppss_one (pps_ret (pp_ty1 call_tupleP rfl T.z_tuple rfl (PPN.pp (ppn_lc (own := [("_", 1), ("lot", 2)]) rfl sc_in_order.nd (ppi_seq (pp_call (fm_set_of T) solid_set_of (hr.mono (by decide)) (takes_of rfl rfl rfl rfl) rfl (ppa_cons (PPN.pp (ppn_lc (own := [("lot", 2)]) rfl sc_in_order.nd (ppi_seq (pp_call (fm_tupled T 14) (solid_tupled 14) (hr.mono (by decide)) (takes_of rfl rfl rfl rfl) rfl (ppa_cons (pp_pv 0) ppa_nil))) (blk_of rfl (by rfl)) (fun _ _ _ _ _ => (ppgw_name (i := 2) sc_in_order.nd rfl (by first | exact .inl rfl | exact .inr rfl) (by decide))) (fun _ _ _ _ _ => ppts_nil) (fun _ _ _ _ _ => (pp_tup (ppa_cons (pp_b1 call_lenP rfl T.z_len rfl (pp_pv 2)) (ppa_cons (pp_pv 2) ppa_nil)))))) ppa_nil))) (blk_of rfl (by rfl)) (fun _ _ _ _ _ => (ppgw_tup rfl (ppgws_cons (ppgw_name (i := 1) sc_in_order.nd rfl (by first | exact .inl rfl | exact .inr rfl) (by decide)) (ppgws_cons (ppgw_name (i := 2) sc_in_order.nd rfl (by first | exact .inl rfl | exact .inr rfl) (by decide)) ppgws_nil)))) (fun _ _ _ _ _ => ppts_nil) (fun _ _ _ _ _ => (pp_pv 2)))))))
/-! is_number -/
theorem sc_is_number : FnScope ["thing"] ["thing"] (defScope (topS 5)) := ⟨rfl, rfl, rfl, by decide +kernel, rfl, by decide +kernel, by decide +kernel⟩
def b_is_number : CS := (sRet (cAnd (c1 (isiD .int) (cV 0)) (cNot (c1 (isiD .bool) (cV 0)))))
def m_is_number : List D → Res D := cDef 1 0 b_is_number
theorem solid_is_number : Solid m_is_number := solid_def _ _ _
theorem fm_is_number (T : Tx0 ec0 ec1 K mg) : Fm P w K mg base (clsOf ec0 ec1) 1 "is_number" (topS 5) ["thing"] m_is_number := by
  obtain ⟨f, fd, h1, h2, h3⟩ := T.f_is_number
  exact fm_def (k := 0) h2 sc_is_number h1 h3 rfl rfl fun cdv A outer s H E Fz hr => (ppss_one (pps_ret (pp_and (pp_isi (t := .int) rfl T.z_isinstance rfl T.z_int rfl (pp_pv 0)) (pp_one (pp_not (pp_isi (t := .bool) rfl T.z_isinstance rfl T.z_bool rfl (pp_pv 0)))))))
/-! is_count -/
theorem sc_is_count : FnScope ["thing"] ["thing"] (defScope (topS 6)) := ⟨rfl, rfl, rfl, by decide +kernel, rfl, by decide +kernel, by decide +kernel⟩
def b_is_count : CS := (sRet (cAnd (cCall m_is_number (aC (cV 0) aN)) (c2 geD (cV 0) (cC (.int 0)))))
def m_is_count : List D → Res D := cDef 1 0 b_is_count
theorem solid_is_count : Solid m_is_count := solid_def _ _ _
theorem fm_is_count (T : Tx0 ec0 ec1 K mg) : Fm P w K mg base (clsOf ec0 ec1) 2 "is_count" (topS 6) ["thing"] m_is_count := by
  obtain ⟨f, fd, h1, h2, h3⟩ := T.f_is_count
  exact fm_def (k := 1) h2 sc_is_count h1 h3 rfl rfl fun cdv A outer s H E Fz hr => (ppss_one (pps_ret (pp_and (pp_call (fm_is_number T) solid_is_number (hr.mono (by decide)) (takes_of rfl rfl rfl rfl) rfl (ppa_cons (pp_pv 0) ppa_nil)) (pp_one (pp_cmp op_geP (pp_pv 0) pp_int (nomark _))))))
/-! is_below -/
theorem sc_is_below : FnScope ["thing", "bound"] ["thing", "bound"] (defScope (topS 7)) := ⟨rfl, rfl, rfl, by decide +kernel, rfl, by decide +kernel, by decide +kernel⟩
def b_is_below : CS := (sRet (cAnd (cCall m_is_count (aC (cV 0) aN)) (c2 ltD2 (cV 0) (cV 1))))
def m_is_below : List D → Res D := cDef 2 0 b_is_below
theorem solid_is_below : Solid m_is_below := solid_def _ _ _
theorem fm_is_below (T : Tx0 ec0 ec1 K mg) : Fm P w K mg base (clsOf ec0 ec1) 3 "is_below" (topS 7) ["thing", "bound"] m_is_below := by
  obtain ⟨f, fd, h1, h2, h3⟩ := T.f_is_below
  exact fm_def (k := 2) h2 sc_is_below h1 h3 rfl rfl fun cdv A outer s H E Fz hr => (ppss_one (pps_ret (pp_and (pp_call (fm_is_count T) solid_is_count (hr.mono (by decide)) (takes_of rfl rfl rfl rfl) rfl (ppa_cons (pp_pv 0) ppa_nil)) (pp_one (pp_cmp (op_ltP2 hr.units) (pp_pv 0) (pp_pv 1) (nomark _))))))
/-! rises -/
theorem sc_rises : FnScope ["things", "one", "other"] ["things"] (defScope (topS 10)) := ⟨rfl, rfl, rfl, by decide +kernel, rfl, by decide +kernel, by decide +kernel⟩
def b_rises : CS := (sRet (c1 allD (cN (nLc (iR zipD2 (aC (cV 0) (aC (cSl (cV 0) (oS (cC (.int 1))) oN) aN))) [1, 2] (gT (gsC (gN 1) (gsC (gN 2) gsN))) tYesC (c2 ltD2 (cV 1) (cV 2))))))
def m_rises : List D → Res D := cDef 1 2 b_rises
theorem solid_rises : Solid m_rises := solid_def _ _ _
theorem fm_rises (T : Tx0 ec0 ec1 K mg) : Fm P w K mg base (clsOf ec0 ec1) 1 "rises" (topS 10) ["things"] m_rises := by
  obtain ⟨f, fd, h1, h2, h3⟩ := T.f_rises
  exact fm_def (k := 0) h2 sc_rises h1 h3 rfl rfl fun cdv A outer s H E Fz hr => (ppss_one (pps_ret (pp_b1 (call_allP rfl) rfl T.z_all rfl (PPN.pp (ppn_lc (own := [("one", 1), ("other", 2)]) rfl sc_rises.nd (ppi_zip2 rfl T.z_zip (ppa_cons (pp_pv 0) (ppa_cons (pp_slice (pp_pv 0) (ppo_some pp_int) ppo_none) ppa_nil))) (blk_of rfl (by rfl)) (fun _ _ _ _ _ => (ppgw_tup rfl (ppgws_cons (ppgw_name (i := 1) sc_rises.nd rfl (by first | exact .inl rfl | exact .inr rfl) (by decide)) (ppgws_cons (ppgw_name (i := 2) sc_rises.nd rfl (by first | exact .inl rfl | exact .inr rfl) (by decide)) ppgws_nil)))) (fun _ _ _ _ _ => ppts_nil) (fun _ _ _ _ _ => (pp_cmp (op_ltP2 hr.units) (pp_pv 1) (pp_pv 2) (nomark _))))))))
/-! is_lot -/
theorem sc_is_lot : FnScope ["n", "thing", "good"] ["n", "thing"] (defScope (topS 13)) := ⟨rfl, rfl, rfl, by decide +kernel, rfl, by decide +kernel, by decide +kernel⟩
def b_is_lot : CS := (sRet (cAnd (c1 (isiD .tuple) (cV 1)) (cAnd (c1 allD (cN (nLcE (iA (cV 1)) [2] (gN 2) tYesC (cCall m_is_below (aC (cV 2) (aC (cV 0) aN)))))) (cCall m_rises (aC (cV 1) aN)))))
def m_is_lot : List D → Res D := cDef 2 1 b_is_lot
theorem solid_is_lot : Solid m_is_lot := solid_def _ _ _
theorem fm_is_lot (T : Tx0 ec0 ec1 K mg) : Fm P w K mg base (clsOf ec0 ec1) 4 "is_lot" (topS 13) ["n", "thing"] m_is_lot := by
  obtain ⟨f, fd, h1, h2, h3⟩ := T.f_is_lot
  exact fm_def (k := 3) h2 sc_is_lot h1 h3 rfl rfl fun cdv A outer s H E Fz hr => (ppss_one (pps_ret (pp_and (pp_isi (t := .tuple) rfl T.z_isinstance rfl T.z_tuple rfl (pp_pv 1)) (pp_and (pp_b1 (call_allP rfl) rfl T.z_all rfl (PPN.pp (ppn_lcE (own := [("good", 2)]) rfl rfl (takes_of rfl rfl rfl rfl) rfl sc_is_lot.nd (ppi_seq (pp_pv 1)) (blk_of rfl (by rfl)) (fun _ _ _ _ _ _ => (ppgw_name (i := 2) sc_is_lot.nd rfl (by first | exact .inl rfl | exact .inr rfl) (by decide))) (fun _ _ _ _ _ _ _ tkB => ppts_nil) (fun _ _ _ _ _ _ _ tkB => (pp_call (fm_is_below T) solid_is_below (hr.mono (by decide)) tkB rfl (ppa_cons (pp_pv 2) (ppa_cons (pp_pv 0) ppa_nil))))))) (pp_one (pp_call (fm_rises T) solid_rises (hr.mono (by decide)) (takes_of rfl rfl rfl rfl) rfl (ppa_cons (pp_pv 1) ppa_nil)))))))
/-! is_family -/
theorem sc_is_family : FnScope ["n", "thing", "lot"] ["n", "thing"] (defScope (topS 34)) := ⟨rfl, rfl, rfl, by decide +kernel, rfl, by decide +kernel, by decide +kernel⟩
def b_is_family : CS := (sSeq (sIf (tOr (tNot (tV (c1 (isiD .tuple) (cV 1)))) (tNot (tV (c1 allD (cN (nLcE (iA (cV 1)) [2] (gN 2) tYesC (cCall m_is_lot (aC (cV 0) (aC (cV 2) aN))))))))) (sRet (cC (.bl false))) sNx)
    (sRet (cAnd (c2 eqD (cCall m_in_order (aC (cV 1) aN)) (cV 1)) (cAnd (c2 inD (cTup aN) (cV 1)) (c2 inD (cCall m_all_goods (aC (cV 0) aN)) (cV 1))))))
def m_is_family : List D → Res D := cDef 2 1 b_is_family
theorem solid_is_family : Solid m_is_family := solid_def _ _ _
theorem fm_is_family (T : Tx0 ec0 ec1 K mg) : Fm P w K mg base (clsOf ec0 ec1) 16 "is_family" (topS 34) ["n", "thing"] m_is_family := by
  obtain ⟨f, fd, h1, h2, h3⟩ := T.f_is_family
  exact fm_def (k := 15) h2 sc_is_family h1 h3 rfl rfl fun cdv A outer s H E Fz hr => (ppss_cons (pps_if (PPW.pt (ppw_or (ppt_not (ppt_val (pp_isi (t := .tuple) rfl T.z_isinstance rfl T.z_tuple rfl (pp_pv 1)))) (ppw_or1 (ppt_not (ppt_val (pp_b1 (call_allP rfl) rfl T.z_all rfl (PPN.pp (ppn_lcE (own := [("lot", 2)]) rfl rfl (takes_of rfl rfl rfl rfl) rfl sc_is_family.nd (ppi_seq (pp_pv 1)) (blk_of rfl (by rfl)) (fun _ _ _ _ _ _ => (ppgw_name (i := 2) sc_is_family.nd rfl (by first | exact .inl rfl | exact .inr rfl) (by decide))) (fun _ _ _ _ _ _ _ tkB => ppts_nil) (fun _ _ _ _ _ _ _ tkB => (pp_call (fm_is_lot T) solid_is_lot (hr.mono (by decide)) tkB rfl (ppa_cons (pp_pv 0) (ppa_cons (pp_pv 2) ppa_nil)))))))))))) (ppss_one (pps_ret pp_bl)) ppss_nil)
    (ppss_one (pps_ret (pp_and (pp_cmp (op_eqP hr.units) (pp_call (fm_in_order T) solid_in_order (hr.mono (by decide)) (takes_of rfl rfl rfl rfl) rfl (ppa_cons (pp_pv 1) ppa_nil)) (pp_pv 1) (nomark _)) (pp_and (pp_cmp (op_inP hr.units) (pp_tup ppa_nil) (pp_pv 1) (by rfl)) (pp_one (pp_cmp (op_inP hr.units) (pp_call (fm_all_goods T) solid_all_goods (hr.mono (by decide)) (takes_of rfl rfl rfl rfl) rfl (ppa_cons (pp_pv 0) ppa_nil)) (pp_pv 1) (by rfl))))))))
/-! sure_goods -/
theorem sc_sure_goods : FnScope ["n"] ["n"] (defScope (topS 29)) := ⟨rfl, rfl, rfl, by decide +kernel, rfl, by decide +kernel, by decide +kernel⟩
def b_sure_goods : CS := (sSeq (sIf (tOr (tNot (tV (cCall m_is_count (aC (cV 0) aN)))) (tV (c2 eqD (cV 0) (cC (.int 0))))) (sRaise 0) sNx)
    (sRet (cV 0)))
def m_sure_goods : List D → Res D := cDef 1 0 b_sure_goods
theorem solid_sure_goods : Solid m_sure_goods := solid_def _ _ _
theorem fm_sure_goods (T : Tx0 ec0 ec1 K mg) : Fm P w K mg base (clsOf ec0 ec1) 3 "sure_goods" (topS 29) ["n"] m_sure_goods := by
  obtain ⟨f, fd, h1, h2, h3⟩ := T.f_sure_goods
  exact fm_def (k := 2) h2 sc_sure_goods h1 h3 rfl rfl fun cdv A outer s H E Fz hr => (ppss_cons (pps_if (PPW.pt (ppw_or (ppt_not (ppt_val (pp_call (fm_is_count T) solid_is_count (hr.mono (by decide)) (takes_of rfl rfl rfl rfl) rfl (ppa_cons (pp_pv 0) ppa_nil)))) (ppw_or1 (ppt_cmp (op_eqP hr.units) (pp_pv 0) pp_int (nomark _))))) (ppss_one (pps_raise (c := 0) rfl (takes_of rfl rfl rfl rfl) (pmk_own0 PySem.F.excBase_ValueError T.o_Unfit.x T.o_Unfit.g T.o_Unfit.k (raises_own T.o_Unfit.b T.o_Unfit.t) rfl))) ppss_nil)
    (ppss_one (pps_ret (pp_pv 0))))
/-! sure_family -/
theorem sc_sure_family : FnScope ["n", "family", "own"] ["n", "family"] (defScope (topS 35)) := ⟨rfl, rfl, rfl, by decide +kernel, rfl, by decide +kernel, by decide +kernel⟩
def b_sure_family : CS := (sSeq (sSet 2 (cCall (m_tupled 14) (aC (cV 1) aN)))
    (sSeq (sIf (tNot (tV (cCall m_is_family (aC (cCall m_sure_goods (aC (cV 0) aN)) (aC (cV 2) aN))))) (sRaise 0) sNx)
    (sRet (cV 2))))
def m_sure_family : List D → Res D := cDef 2 1 b_sure_family
theorem solid_sure_family : Solid m_sure_family := solid_def _ _ _
theorem fm_sure_family (T : Tx0 ec0 ec1 K mg) : Fm P w K mg base (clsOf ec0 ec1) 17 "sure_family" (topS 35) ["n", "family"] m_sure_family := by
  obtain ⟨f, fd, h1, h2, h3⟩ := T.f_sure_family
  exact fm_def (k := 16) h2 sc_sure_family h1 h3 rfl rfl fun cdv A outer s H E Fz hr => (ppss_cons (pps_set (i := 2) sc_sure_family.nd rfl (by first | exact .inl rfl | exact .inr rfl) (pp_call (fm_tupled T 14) (solid_tupled 14) (hr.mono (by decide)) (takes_of rfl rfl rfl rfl) rfl (ppa_cons (pp_pv 1) ppa_nil)))
    (ppss_cons (pps_if (ppt_not (ppt_val (pp_call (fm_is_family T) solid_is_family (hr.mono (by decide)) (takes_of rfl rfl rfl rfl) rfl (ppa_cons (pp_call (fm_sure_goods T) solid_sure_goods (hr.mono (by decide)) (takes_of rfl rfl rfl rfl) rfl (ppa_cons (pp_pv 0) ppa_nil)) (ppa_cons (pp_pv 2) ppa_nil))))) (ppss_one (pps_raise (c := 0) rfl (takes_of rfl rfl rfl rfl) (pmk_own0 PySem.F.excBase_ValueError T.o_Unfit.x T.o_Unfit.g T.o_Unfit.k (raises_own T.o_Unfit.b T.o_Unfit.t) rfl))) ppss_nil)
    (ppss_one (pps_ret (pp_pv 2)))))
/-! family_met -/
theorem sc_family_met : FnScope ["n", "family", "other", "own", "far", "lot"] ["n", "family", "other"] (defScope (topS 51)) := ⟨rfl, rfl, rfl, by decide +kernel, rfl, by decide +kernel, by decide +kernel⟩
def b_family_met : CS := (sSeq (sAsg (gT (gsC (gN 3) (gsC (gN 4) gsN))) (cTup (aC (cCall m_sure_family (aC (cV 0) (aC (cV 1) aN))) (aC (cCall m_sure_family (aC (cV 0) (aC (cV 2) aN))) aN))))
    (sRet (c1 tupleD (cN (nLc (iA (cV 3)) [5] (gN 5) (tV (c2 inD (cV 5) (cV 4))) (cV 5))))))
def m_family_met : List D → Res D := cDef 3 3 b_family_met
theorem solid_family_met : Solid m_family_met := solid_def _ _ _
theorem fm_family_met (T : Tx0 ec0 ec1 K mg) : Fm P w K mg base (clsOf ec0 ec1) 18 "family_met" (topS 51) ["n", "family", "other"] m_family_met := by
  obtain ⟨f, fd, h1, h2, h3⟩ := T.f_family_met
  exact fm_def (k := 17) h2 sc_family_met h1 h3 rfl rfl fun cdv A outer s H E Fz hr => (ppss_cons (pps_asg (pp_tup (ppa_cons (pp_call (fm_sure_family T) solid_sure_family (hr.mono (by decide)) (takes_of rfl rfl rfl rfl) rfl (ppa_cons (pp_pv 0) (ppa_cons (pp_pv 1) ppa_nil))) (ppa_cons (pp_call (fm_sure_family T) solid_sure_family (hr.mono (by decide)) (takes_of rfl rfl rfl rfl) rfl (ppa_cons (pp_pv 0) (ppa_cons (pp_pv 2) ppa_nil))) ppa_nil))) (ppg_tup rfl (ppgs_cons (ppg_name (i := 3) sc_family_met.nd rfl (by first | exact .inl rfl | exact .inr rfl)) (ppgs_cons (ppg_name (i := 4) sc_family_met.nd rfl (by first | exact .inl rfl | exact .inr rfl)) ppgs_nil))))
    (ppss_one (pps_ret (pp_ty1 call_tupleP rfl T.z_tuple rfl (PPN.pp (ppn_lc (own := [("lot", 5)]) rfl sc_family_met.nd (ppi_seq (pp_pv 3)) (blk_of rfl (by rfl)) (fun _ _ _ _ _ => (ppgw_name (i := 5) sc_family_met.nd rfl (by first | exact .inl rfl | exact .inr rfl) (by decide))) (fun _ _ _ _ _ => (ppts_one (ppt_cmp (op_inP hr.units) (pp_pv 5) (pp_pv 4) (by rfl)))) (fun _ _ _ _ _ => (pp_pv 5))))))))
/-! is_part -/
theorem sc_is_part : FnScope ["one", "other", "good"] ["one", "other"] (defScope (topS 19)) := ⟨rfl, rfl, rfl, by decide +kernel, rfl, by decide +kernel, by decide +kernel⟩
def b_is_part : CS := (sRet (c1 allD (cN (nLc (iA (cV 0)) [2] (gN 2) tYesC (c2 inD (cV 2) (cV 1))))))
def m_is_part : List D → Res D := cDef 2 1 b_is_part
theorem solid_is_part : Solid m_is_part := solid_def _ _ _
theorem fm_is_part (T : Tx0 ec0 ec1 K mg) : Fm P w K mg base (clsOf ec0 ec1) 1 "is_part" (topS 19) ["one", "other"] m_is_part := by
  obtain ⟨f, fd, h1, h2, h3⟩ := T.f_is_part
  exact fm_def (k := 0) h2 sc_is_part h1 h3 rfl rfl fun cdv A outer s H E Fz hr => (ppss_one (pps_ret (pp_b1 (call_allP rfl) rfl T.z_all rfl (PPN.pp (ppn_lc (own := [("good", 2)]) rfl sc_is_part.nd (ppi_seq (pp_pv 0)) (blk_of rfl (by rfl)) (fun _ _ _ _ _ => (ppgw_name (i := 2) sc_is_part.nd rfl (by first | exact .inl rfl | exact .inr rfl) (by decide))) (fun _ _ _ _ _ => ppts_nil) (fun _ _ _ _ _ => (pp_cmp (op_inP hr.units) (pp_pv 2) (pp_pv 1) (by rfl))))))))
/-! is_tuple_of -/
theorem sc_is_tuple_of : FnScope ["thing", "length"] ["thing", "length"] (defScope (topS 8)) := ⟨rfl, rfl, rfl, by decide +kernel, rfl, by decide +kernel, by decide +kernel⟩
def b_is_tuple_of : CS := (sRet (cAnd (c1 (isiD .tuple) (cV 0)) (c2 eqD (c1 lenD (cV 0)) (cV 1))))
def m_is_tuple_of : List D → Res D := cDef 2 0 b_is_tuple_of
theorem solid_is_tuple_of : Solid m_is_tuple_of := solid_def _ _ _
theorem fm_is_tuple_of (T : Tx0 ec0 ec1 K mg) : Fm P w K mg base (clsOf ec0 ec1) 1 "is_tuple_of" (topS 8) ["thing", "length"] m_is_tuple_of := by
  obtain ⟨f, fd, h1, h2, h3⟩ := T.f_is_tuple_of
  exact fm_def (k := 0) h2 sc_is_tuple_of h1 h3 rfl rfl fun cdv A outer s H E Fz hr => (ppss_one (pps_ret (pp_and (pp_isi (t := .tuple) rfl T.z_isinstance rfl T.z_tuple rfl (pp_pv 0)) (pp_one (pp_cmp (op_eqP hr.units) (pp_b1 call_lenP rfl T.z_len rfl (pp_pv 0)) (pp_pv 1) (nomark _))))))
/-! is_menu -/
theorem sc_is_menu : FnScope ["n", "thing"] ["n", "thing"] (defScope (topS 14)) := ⟨rfl, rfl, rfl, by decide +kernel, rfl, by decide +kernel, by decide +kernel⟩
def b_is_menu : CS := (sRet (cAnd (cCall m_is_lot (aC (cV 0) (aC (cV 1) aN))) (c2 neD (cV 1) (cTup aN))))
def m_is_menu : List D → Res D := cDef 2 0 b_is_menu
theorem solid_is_menu : Solid m_is_menu := solid_def _ _ _
theorem fm_is_menu (T : Tx0 ec0 ec1 K mg) : Fm P w K mg base (clsOf ec0 ec1) 5 "is_menu" (topS 14) ["n", "thing"] m_is_menu := by
  obtain ⟨f, fd, h1, h2, h3⟩ := T.f_is_menu
  exact fm_def (k := 4) h2 sc_is_menu h1 h3 rfl rfl fun cdv A outer s H E Fz hr => (ppss_one (pps_ret (pp_and (pp_call (fm_is_lot T) solid_is_lot (hr.mono (by decide)) (takes_of rfl rfl rfl rfl) rfl (ppa_cons (pp_pv 0) (ppa_cons (pp_pv 1) ppa_nil))) (pp_one (pp_cmp (op_neP hr.units) (pp_pv 1) (pp_tup ppa_nil) (nomark _))))))
/-! is_fact -/
theorem sc_is_fact : FnScope ["n", "thing"] ["n", "thing"] (defScope (topS 27)) := ⟨rfl, rfl, rfl, by decide +kernel, rfl, by decide +kernel, by decide +kernel⟩
def b_is_fact : CS := (sSeq (sIf (tOr (tNot (tV (cCall m_is_tuple_of (aC (cV 1) (aC (cC (.int 2)) aN))))) (tOr (tNot (tV (cCall m_is_menu (aC (cV 0) (aC (c2 ixD (cV 1) (cC (.int 0))) aN))))) (tNot (tV (cCall m_is_lot (aC (cV 0) (aC (c2 ixD (cV 1) (cC (.int 1))) aN))))))) (sRet (cC (.bl false))) sNx)
    (sRet (cCall m_is_part (aC (c2 ixD (cV 1) (cC (.int 1))) (aC (c2 ixD (cV 1) (cC (.int 0))) aN)))))
def m_is_fact : List D → Res D := cDef 2 0 b_is_fact
theorem solid_is_fact : Solid m_is_fact := solid_def _ _ _
theorem fm_is_fact (T : Tx0 ec0 ec1 K mg) : Fm P w K mg base (clsOf ec0 ec1) 6 "is_fact" (topS 27) ["n", "thing"] m_is_fact := by
  obtain ⟨f, fd, h1, h2, h3⟩ := T.f_is_fact
  exact fm_def (k := 5) h2 sc_is_fact h1 h3 rfl rfl fun cdv A outer s H E Fz hr => (ppss_cons (pps_if (PPW.pt (ppw_or (ppt_not (ppt_val (pp_call (fm_is_tuple_of T) solid_is_tuple_of (hr.mono (by decide)) (takes_of rfl rfl rfl rfl) rfl (ppa_cons (pp_pv 1) (ppa_cons (pp_gint rfl T.k_PAIR) ppa_nil))))) (ppw_or (ppt_not (ppt_val (pp_call (fm_is_menu T) solid_is_menu (hr.mono (by decide)) (takes_of rfl rfl rfl rfl) rfl (ppa_cons (pp_pv 0) (ppa_cons (pp_ix (pp_pv 1) pp_int) ppa_nil))))) (ppw_or1 (ppt_not (ppt_val (pp_call (fm_is_lot T) solid_is_lot (hr.mono (by decide)) (takes_of rfl rfl rfl rfl) rfl (ppa_cons (pp_pv 0) (ppa_cons (pp_ix (pp_pv 1) pp_int) ppa_nil))))))))) (ppss_one (pps_ret pp_bl)) ppss_nil)
    (ppss_one (pps_ret (pp_call (fm_is_part T) solid_is_part (hr.mono (by decide)) (takes_of rfl rfl rfl rfl) rfl (ppa_cons (pp_ix (pp_pv 1) pp_int) (ppa_cons (pp_ix (pp_pv 1) pp_int) ppa_nil))))))
/-! are_facts -/
theorem sc_are_facts : FnScope ["n", "thing", "own"] ["n", "thing"] (defScope (topS 28)) := ⟨rfl, rfl, rfl, by decide +kernel, rfl, by decide +kernel, by decide +kernel⟩
def b_are_facts : CS := (sRet (cAnd (c1 (isiD .tuple) (cV 1)) (c1 allD (cN (nLcE (iA (cV 1)) [2] (gN 2) tYesC (cCall m_is_fact (aC (cV 0) (aC (cV 2) aN))))))))
def m_are_facts : List D → Res D := cDef 2 1 b_are_facts
theorem solid_are_facts : Solid m_are_facts := solid_def _ _ _
theorem fm_are_facts (T : Tx0 ec0 ec1 K mg) : Fm P w K mg base (clsOf ec0 ec1) 7 "are_facts" (topS 28) ["n", "thing"] m_are_facts := by
  obtain ⟨f, fd, h1, h2, h3⟩ := T.f_are_facts
  exact fm_def (k := 6) h2 sc_are_facts h1 h3 rfl rfl fun cdv A outer s H E Fz hr => (ppss_one (pps_ret (pp_and (pp_isi (t := .tuple) rfl T.z_isinstance rfl T.z_tuple rfl (pp_pv 1)) (pp_one (pp_b1 (call_allP rfl) rfl T.z_all rfl (PPN.pp (ppn_lcE (own := [("own", 2)]) rfl rfl (takes_of rfl rfl rfl rfl) rfl sc_are_facts.nd (ppi_seq (pp_pv 1)) (blk_of rfl (by rfl)) (fun _ _ _ _ _ _ => (ppgw_name (i := 2) sc_are_facts.nd rfl (by first | exact .inl rfl | exact .inr rfl) (by decide))) (fun _ _ _ _ _ _ _ tkB => ppts_nil) (fun _ _ _ _ _ _ _ tkB => (pp_call (fm_is_fact T) solid_is_fact (hr.mono (by decide)) tkB rfl (ppa_cons (pp_pv 0) (ppa_cons (pp_pv 2) ppa_nil)))))))))))
/-! sure_facts -/
theorem sc_sure_facts : FnScope ["n", "facts", "own"] ["n", "facts"] (defScope (topS 30)) := ⟨rfl, rfl, rfl, by decide +kernel, rfl, by decide +kernel, by decide +kernel⟩
def b_sure_facts : CS := (sSeq (sSet 2 (cCall (m_tupled 14) (aC (cV 1) aN)))
    (sSeq (sIf (tNot (tV (cCall m_are_facts (aC (cCall m_sure_goods (aC (cV 0) aN)) (aC (cV 2) aN))))) (sRaise 0) sNx)
    (sRet (cV 2))))
def m_sure_facts : List D → Res D := cDef 2 1 b_sure_facts
theorem solid_sure_facts : Solid m_sure_facts := solid_def _ _ _
theorem fm_sure_facts (T : Tx0 ec0 ec1 K mg) : Fm P w K mg base (clsOf ec0 ec1) 15 "sure_facts" (topS 30) ["n", "facts"] m_sure_facts := by
  obtain ⟨f, fd, h1, h2, h3⟩ := T.f_sure_facts
  exact fm_def (k := 14) h2 sc_sure_facts h1 h3 rfl rfl fun cdv A outer s H E Fz hr => (ppss_cons (pps_set (i := 2) sc_sure_facts.nd rfl (by first | exact .inl rfl | exact .inr rfl) (pp_call (fm_tupled T 14) (solid_tupled 14) (hr.mono (by decide)) (takes_of rfl rfl rfl rfl) rfl (ppa_cons (pp_pv 1) ppa_nil)))
    (ppss_cons (pps_if (ppt_not (ppt_val (pp_call (fm_are_facts T) solid_are_facts (hr.mono (by decide)) (takes_of rfl rfl rfl rfl) rfl (ppa_cons (pp_call (fm_sure_goods T) solid_sure_goods (hr.mono (by decide)) (takes_of rfl rfl rfl rfl) rfl (ppa_cons (pp_pv 0) ppa_nil)) (ppa_cons (pp_pv 2) ppa_nil))))) (ppss_one (pps_raise (c := 0) rfl (takes_of rfl rfl rfl rfl) (pmk_own0 PySem.F.excBase_ValueError T.o_Unfit.x T.o_Unfit.g T.o_Unfit.k (raises_own T.o_Unfit.b T.o_Unfit.t) rfl))) ppss_nil)
    (ppss_one (pps_ret (pp_pv 2)))))
/-! is_stuck_set -/
theorem sc_is_stuck_set : FnScope ["n", "facts", "thing", "own", "left", "good", "_", "k", "pair"] ["n", "facts", "thing"] (defScope (topS 45)) := ⟨rfl, rfl, rfl, by decide +kernel, rfl, by decide +kernel, by decide +kernel⟩
def b_is_stuck_set : CS := (sSeq (sSet 3 (cCall m_sure_facts (aC (cV 0) (aC (cV 1) aN))))
    (sSeq (sIf (tOr (tNot (tV (c1 (isiD .tuple) (cV 2)))) (tOr (tV (c2 eqD (cV 2) (cTup aN))) (tNot (tV (c1 allD (cN (nLcE (iA (cV 2)) [8] (gN 8) tYesC (cCall m_is_tuple_of (aC (cV 8) (aC (cC (.int 2)) aN)))))))))) (sRet (cC (.bl false))) sNx)
    (sSeq (sIf (tNot (tV (c1 allD (cN (nLcE (iA (cV 2)) [5, 7] (gT (gsC (gN 5) (gsC (gN 7) gsN))) tYesC (cAnd (cCall m_is_below (aC (cV 5) (aC (cV 0) aN))) (cCall m_is_below (aC (cV 7) (aC (c1 lenD (cV 3)) aN))))))))) (sRet (cC (.bl false))) sNx)
    (sSeq (sSet 4 (c1 tupleD (cN (nLc (iA (cV 2)) [5, 6] (gT (gsC (gN 5) (gsC (gN 6) gsN))) tYesC (cV 5)))))
    (sSeq (sIf (tNot (tV (cCall m_rises (aC (cV 4) aN)))) (sRet (cC (.bl false))) sNx)
    (sRet (c1 allD (cN (nLcE (iA (cV 2)) [5, 7] (gT (gsC (gN 5) (gsC (gN 7) gsN))) tYesC (cAnd (c2 inD (cV 5) (c2 ixD (c2 ixD (cV 3) (cV 7)) (cC (.int 0)))) (cAnd (c2 notInD (cV 5) (c2 ixD (c2 ixD (cV 3) (cV 7)) (cC (.int 1)))) (cCall m_is_part (aC (c2 ixD (c2 ixD (cV 3) (cV 7)) (cC (.int 1))) (aC (cV 4) aN))))))))))))))
def m_is_stuck_set : List D → Res D := cDef 3 6 b_is_stuck_set
theorem solid_is_stuck_set : Solid m_is_stuck_set := solid_def _ _ _
theorem fm_is_stuck_set (T : Tx0 ec0 ec1 K mg) : Fm P w K mg base (clsOf ec0 ec1) 16 "is_stuck_set" (topS 45) ["n", "facts", "thing"] m_is_stuck_set := by
  obtain ⟨f, fd, h1, h2, h3⟩ := T.f_is_stuck_set
  exact fm_def (k := 15) h2 sc_is_stuck_set h1 h3 rfl rfl fun cdv A outer s H E Fz hr => (ppss_cons (pps_set (i := 3) sc_is_stuck_set.nd rfl (by first | exact .inl rfl | exact .inr rfl) (pp_call (fm_sure_facts T) solid_sure_facts (hr.mono (by decide)) (takes_of rfl rfl rfl rfl) rfl (ppa_cons (pp_pv 0) (ppa_cons (pp_pv 1) ppa_nil))))
    (ppss_cons (pps_if (PPW.pt (ppw_or (ppt_not (ppt_val (pp_isi (t := .tuple) rfl T.z_isinstance rfl T.z_tuple rfl (pp_pv 2)))) (ppw_or (ppt_cmp (op_eqP hr.units) (pp_pv 2) (pp_tup ppa_nil) (nomark _)) (ppw_or1 (ppt_not (ppt_val (pp_b1 (call_allP rfl) rfl T.z_all rfl (PPN.pp (ppn_lcE (own := [("pair", 8)]) rfl rfl (takes_of rfl rfl rfl rfl) rfl sc_is_stuck_set.nd (ppi_seq (pp_pv 2)) (blk_of rfl (by rfl)) (fun _ _ _ _ _ _ => (ppgw_name (i := 8) sc_is_stuck_set.nd rfl (by first | exact .inl rfl | exact .inr rfl) (by decide))) (fun _ _ _ _ _ _ _ tkB => ppts_nil) (fun _ _ _ _ _ _ _ tkB => (pp_call (fm_is_tuple_of T) solid_is_tuple_of (hr.mono (by decide)) tkB rfl (ppa_cons (pp_pv 8) (ppa_cons (pp_gint rfl T.k_PAIR) ppa_nil))))))))))))) (ppss_one (pps_ret pp_bl)) ppss_nil)
    (ppss_cons (pps_if (ppt_not (ppt_val (pp_b1 (call_allP rfl) rfl T.z_all rfl (PPN.pp (ppn_lcE (own := [("good", 5), ("k", 7)]) rfl rfl (takes_of rfl rfl rfl rfl) rfl sc_is_stuck_set.nd (ppi_seq (pp_pv 2)) (blk_of rfl (by rfl)) (fun _ _ _ _ _ _ => (ppgw_tup rfl (ppgws_cons (ppgw_name (i := 5) sc_is_stuck_set.nd rfl (by first | exact .inl rfl | exact .inr rfl) (by decide)) (ppgws_cons (ppgw_name (i := 7) sc_is_stuck_set.nd rfl (by first | exact .inl rfl | exact .inr rfl) (by decide)) ppgws_nil)))) (fun _ _ _ _ _ _ _ tkB => ppts_nil) (fun _ _ _ _ _ _ _ tkB => (pp_and (pp_call (fm_is_below T) solid_is_below (hr.mono (by decide)) tkB rfl (ppa_cons (pp_pv 5) (ppa_cons (pp_pv 0) ppa_nil))) (pp_one (pp_call (fm_is_below T) solid_is_below (hr.mono (by decide)) tkB rfl (ppa_cons (pp_pv 7) (ppa_cons (pp_b1 call_lenP rfl T.z_len rfl (pp_pv 3)) ppa_nil))))))))))) (ppss_one (pps_ret pp_bl)) ppss_nil)
    (ppss_cons (pps_set (i := 4) sc_is_stuck_set.nd rfl (by first | exact .inl rfl | exact .inr rfl) (pp_ty1 call_tupleP rfl T.z_tuple rfl (PPN.pp (ppn_lc (own := [("good", 5), ("_", 6)]) rfl sc_is_stuck_set.nd (ppi_seq (pp_pv 2)) (blk_of rfl (by rfl)) (fun _ _ _ _ _ => (ppgw_tup rfl (ppgws_cons (ppgw_name (i := 5) sc_is_stuck_set.nd rfl (by first | exact .inl rfl | exact .inr rfl) (by decide)) (ppgws_cons (ppgw_name (i := 6) sc_is_stuck_set.nd rfl (by first | exact .inl rfl | exact .inr rfl) (by decide)) ppgws_nil)))) (fun _ _ _ _ _ => ppts_nil) (fun _ _ _ _ _ => (pp_pv 5))))))
    (ppss_cons (pps_if (ppt_not (ppt_val (pp_call (fm_rises T) solid_rises (hr.mono (by decide)) (takes_of rfl rfl rfl rfl) rfl (ppa_cons (pp_pv 4) ppa_nil)))) (ppss_one (pps_ret pp_bl)) ppss_nil)
    (ppss_one (pps_ret (pp_b1 (call_allP rfl) rfl T.z_all rfl (PPN.pp (ppn_lcE (own := [("good", 5), ("k", 7)]) rfl rfl (takes_of rfl rfl rfl rfl) rfl sc_is_stuck_set.nd (ppi_seq (pp_pv 2)) (blk_of rfl (by rfl)) (fun _ _ _ _ _ _ => (ppgw_tup rfl (ppgws_cons (ppgw_name (i := 5) sc_is_stuck_set.nd rfl (by first | exact .inl rfl | exact .inr rfl) (by decide)) (ppgws_cons (ppgw_name (i := 7) sc_is_stuck_set.nd rfl (by first | exact .inl rfl | exact .inr rfl) (by decide)) ppgws_nil)))) (fun _ _ _ _ _ _ _ tkB => ppts_nil) (fun _ _ _ _ _ _ _ tkB => (pp_and (pp_cmp (op_inP hr.units) (pp_pv 5) (pp_ix (pp_ix (pp_pv 3) (pp_pv 7)) pp_int) (by rfl)) (pp_and (pp_cmp (op_notInP hr.units) (pp_pv 5) (pp_ix (pp_ix (pp_pv 3) (pp_pv 7)) pp_int) (by rfl)) (pp_one (pp_call (fm_is_part T) solid_is_part (hr.mono (by decide)) tkB rfl (ppa_cons (pp_ix (pp_ix (pp_pv 3) (pp_pv 7)) pp_int) (ppa_cons (pp_pv 4) ppa_nil)))))))))))))))))
/-! lets -/
theorem sc_lets : FnScope ["facts", "lot", "menu", "some", "good"] ["facts", "lot"] (defScope (topS 31)) := ⟨rfl, rfl, rfl, by decide +kernel, rfl, by decide +kernel, by decide +kernel⟩
def b_lets : CS := (sSeq (sFor (iA (cV 0)) (gT (gsC (gN 2) (gsC (gN 3) gsN))) (sIf (tAnd (tV (c1 anyD (cN (nLc (iA (cV 1)) [4] (gN 4) tYesC (c2 inD (cV 4) (cV 2)))))) (tNot (tV (c1 anyD (cN (nLc (iA (cV 1)) [4] (gN 4) tYesC (c2 inD (cV 4) (cV 3)))))))) (sRet (cC (.bl false))) sNx))
    (sRet (cC (.bl true))))
def m_lets : List D → Res D := cDef 2 3 b_lets
theorem solid_lets : Solid m_lets := solid_def _ _ _
theorem fm_lets (T : Tx0 ec0 ec1 K mg) : Fm P w K mg base (clsOf ec0 ec1) 1 "lets" (topS 31) ["facts", "lot"] m_lets := by
  obtain ⟨f, fd, h1, h2, h3⟩ := T.f_lets
  exact fm_def (k := 0) h2 sc_lets h1 h3 rfl rfl fun cdv A outer s H E Fz hr => (ppss_cons (pps_for (passes_of rfl) rfl (ppi_seq (pp_pv 0)) (ppg_tup rfl (ppgs_cons (ppg_name (i := 2) sc_lets.nd rfl (by first | exact .inl rfl | exact .inr rfl)) (ppgs_cons (ppg_name (i := 3) sc_lets.nd rfl (by first | exact .inl rfl | exact .inr rfl)) ppgs_nil))) (ppss_one (pps_if (PPW.pt (ppw_and (ppt_val (pp_b1 (call_anyP rfl) rfl T.z_any rfl (PPN.pp (ppn_lc (own := [("good", 4)]) rfl sc_lets.nd (ppi_seq (pp_pv 1)) (blk_of rfl (by rfl)) (fun _ _ _ _ _ => (ppgw_name (i := 4) sc_lets.nd rfl (by first | exact .inl rfl | exact .inr rfl) (by decide))) (fun _ _ _ _ _ => ppts_nil) (fun _ _ _ _ _ => (pp_cmp (op_inP hr.units) (pp_pv 4) (pp_pv 2) (by rfl))))))) (ppw_and1 (ppt_not (ppt_val (pp_b1 (call_anyP rfl) rfl T.z_any rfl (PPN.pp (ppn_lc (own := [("good", 4)]) rfl sc_lets.nd (ppi_seq (pp_pv 1)) (blk_of rfl (by rfl)) (fun _ _ _ _ _ => (ppgw_name (i := 4) sc_lets.nd rfl (by first | exact .inl rfl | exact .inr rfl) (by decide))) (fun _ _ _ _ _ => ppts_nil) (fun _ _ _ _ _ => (pp_cmp (op_inP hr.units) (pp_pv 4) (pp_pv 3) (by rfl))))))))))) (ppss_one (pps_ret pp_bl)) ppss_nil)))
    (ppss_one (pps_ret pp_bl)))
/-! sets_of -/
theorem sc_sets_of : FnScope ["things", "found", "thing", "_", "own"] ["things"] (defScope (topS 11)) := ⟨rfl, rfl, rfl, by decide +kernel, rfl, by decide +kernel, by decide +kernel⟩
def b_sets_of : CS := (sSeq (sSet 1 (cN (nLst (aC (cTup aN) aN))))
    (sSeq (sFor (iA (cV 0)) (gN 2) (sSet 1 (c2 addD (cV 1) (cN (nLc (iA (cV 1)) [4] (gN 4) tYesC (cTup (aS (cV 4) (aC (cV 2) aN))))))))
    (sRet (cN (nLc (iA (cN (nSrt (cN (nLc (iA (cV 1)) [4] (gN 4) tYesC (cTup (aC (c1 lenD (cV 4)) (aC (cV 4) aN)))))))) [3, 4] (gT (gsC (gN 3) (gsC (gN 4) gsN))) tYesC (cV 4))))))
def m_sets_of : List D → Res D := cDef 1 4 b_sets_of
theorem solid_sets_of : Solid m_sets_of := solid_def _ _ _
theorem fm_sets_of (T : Tx0 ec0 ec1 K mg) : Fm P w K mg base (clsOf ec0 ec1) 1 "sets_of" (topS 11) ["things"] m_sets_of := by
  obtain ⟨f, fd, h1, h2, h3⟩ := T.f_sets_of
  exact fm_def (k := 0) h2 sc_sets_of h1 h3 rfl rfl fun cdv A outer s H E Fz hr => (ppss_cons (pps_set (i := 1) sc_sets_of.nd rfl (by first | exact .inl rfl | exact .inr rfl) (PPN.pp (ppn_lst (ppa_cons (pp_tup ppa_nil) ppa_nil))))
    (ppss_cons (pps_for (passes_of rfl) rfl (ppi_seq (pp_pv 0)) (ppg_name (i := 2) sc_sets_of.nd rfl (by first | exact .inl rfl | exact .inr rfl)) (ppss_one (pps_set (i := 1) sc_sets_of.nd rfl (by first | exact .inl rfl | exact .inr rfl) (pp_op op_addP (pp_pv 1) (PPN.pp (ppn_lc (own := [("own", 4)]) rfl sc_sets_of.nd (ppi_seq (pp_pv 1)) (blk_of rfl (by rfl)) (fun _ _ _ _ _ => (ppgw_name (i := 4) sc_sets_of.nd rfl (by first | exact .inl rfl | exact .inr rfl) (by decide))) (fun _ _ _ _ _ => ppts_nil) (fun _ _ _ _ _ => (pp_tup (ppa_star (pp_pv 4) (ppa_cons (pp_pv 2) ppa_nil))))))))))
    (ppss_one (pps_ret (PPN.pp (ppn_lc (own := [("_", 3), ("own", 4)]) rfl sc_sets_of.nd (ppi_seq (PPN.pp (ppn_sorted hr.units rfl T.z_sorted (PPN.pp (ppn_lc (own := [("own", 4)]) rfl sc_sets_of.nd (ppi_seq (pp_pv 1)) (blk_of rfl (by rfl)) (fun _ _ _ _ _ => (ppgw_name (i := 4) sc_sets_of.nd rfl (by first | exact .inl rfl | exact .inr rfl) (by decide))) (fun _ _ _ _ _ => ppts_nil) (fun _ _ _ _ _ => (pp_tup (ppa_cons (pp_b1 call_lenP rfl T.z_len rfl (pp_pv 4)) (ppa_cons (pp_pv 4) ppa_nil))))))))) (blk_of rfl (by rfl)) (fun _ _ _ _ _ => (ppgw_tup rfl (ppgws_cons (ppgw_name (i := 3) sc_sets_of.nd rfl (by first | exact .inl rfl | exact .inr rfl) (by decide)) (ppgws_cons (ppgw_name (i := 4) sc_sets_of.nd rfl (by first | exact .inl rfl | exact .inr rfl) (by decide)) ppgws_nil)))) (fun _ _ _ _ _ => ppts_nil) (fun _ _ _ _ _ => (pp_pv 4))))))))
/-! lots_of -/
theorem sc_lots_of : FnScope ["n"] ["n"] (defScope (topS 17)) := ⟨rfl, rfl, rfl, by decide +kernel, rfl, by decide +kernel, by decide +kernel⟩
def b_lots_of : CS := (sRet (cCall m_sets_of (aC (cCall m_all_goods (aC (cV 0) aN)) aN)))
def m_lots_of : List D → Res D := cDef 1 0 b_lots_of
theorem solid_lots_of : Solid m_lots_of := solid_def _ _ _
theorem fm_lots_of (T : Tx0 ec0 ec1 K mg) : Fm P w K mg base (clsOf ec0 ec1) 2 "lots_of" (topS 17) ["n"] m_lots_of := by
  obtain ⟨f, fd, h1, h2, h3⟩ := T.f_lots_of
  exact fm_def (k := 1) h2 sc_lots_of h1 h3 rfl rfl fun cdv A outer s H E Fz hr => (ppss_one (pps_ret (pp_call (fm_sets_of T) solid_sets_of (hr.mono (by decide)) (takes_of rfl rfl rfl rfl) rfl (ppa_cons (pp_call (fm_all_goods T) solid_all_goods (hr.mono (by decide)) (takes_of rfl rfl rfl rfl) rfl (ppa_cons (pp_pv 0) ppa_nil)) ppa_nil))))
/-! let_lots -/
theorem sc_let_lots : FnScope ["n", "facts", "own", "lot"] ["n", "facts"] (defScope (topS 33)) := ⟨rfl, rfl, rfl, by decide +kernel, rfl, by decide +kernel, by decide +kernel⟩
def b_let_lots : CS := (sSeq (sSet 2 (cCall m_sure_facts (aC (cV 0) (aC (cV 1) aN))))
    (sRet (c1 tupleD (cN (nLcE (iA (cCall m_lots_of (aC (cV 0) aN))) [3] (gN 3) (tV (cCall m_lets (aC (cV 2) (aC (cV 3) aN)))) (cV 3))))))
def m_let_lots : List D → Res D := cDef 2 2 b_let_lots
theorem solid_let_lots : Solid m_let_lots := solid_def _ _ _
theorem fm_let_lots (T : Tx0 ec0 ec1 K mg) : Fm P w K mg base (clsOf ec0 ec1) 16 "let_lots" (topS 33) ["n", "facts"] m_let_lots := by
  obtain ⟨f, fd, h1, h2, h3⟩ := T.f_let_lots
  exact fm_def (k := 15) h2 sc_let_lots h1 h3 rfl rfl fun cdv A outer s H E Fz hr => (ppss_cons (pps_set (i := 2) sc_let_lots.nd rfl (by first | exact .inl rfl | exact .inr rfl) (pp_call (fm_sure_facts T) solid_sure_facts (hr.mono (by decide)) (takes_of rfl rfl rfl rfl) rfl (ppa_cons (pp_pv 0) (ppa_cons (pp_pv 1) ppa_nil))))
    (ppss_one (pps_ret (pp_ty1 call_tupleP rfl T.z_tuple rfl (PPN.pp (ppn_lcE (own := [("lot", 3)]) rfl rfl (takes_of rfl rfl rfl rfl) rfl sc_let_lots.nd (ppi_seq (pp_call (fm_lots_of T) solid_lots_of (hr.mono (by decide)) (takes_of rfl rfl rfl rfl) rfl (ppa_cons (pp_pv 0) ppa_nil))) (blk_of rfl (by rfl)) (fun _ _ _ _ _ _ => (ppgw_name (i := 3) sc_let_lots.nd rfl (by first | exact .inl rfl | exact .inr rfl) (by decide))) (fun _ _ _ _ _ _ _ tkB => (ppts_one (ppt_val (pp_call (fm_lets T) solid_lets (hr.mono (by decide)) tkB rfl (ppa_cons (pp_pv 2) (ppa_cons (pp_pv 3) ppa_nil)))))) (fun _ _ _ _ _ _ _ tkB => (pp_pv 3))))))))
/-! ways_on -/
theorem sc_ways_on : FnScope ["n", "family", "lot", "found", "good"] ["n", "family", "lot"] (defScope (topS 46)) := ⟨rfl, rfl, rfl, by decide +kernel, rfl, by decide +kernel, by decide +kernel⟩
def b_ways_on : CS := (sSeq (fun e => inE 3 e (sSetN 3 (nLst aN) e))
    (sSeq (sFor (iA (cCall m_all_goods (aC (cV 0) aN))) (gN 4) (sIf (tAnd (tV (c2 notInD (cV 4) (cV 2))) (tV (c2 inD (c1 tupleD (cN (nSrt (cTup (aS (cV 2) (aC (cV 4) aN)))))) (cV 1)))) (sApp 3 (cTup (aC (cV 4) (aC (c1 tupleD (cN (nSrt (cTup (aS (cV 2) (aC (cV 4) aN)))))) aN)))) sNx))
    (sFz 3 (sRet (cV 3)))))
def m_ways_on : List D → Res D := cDef 3 2 b_ways_on
theorem solid_ways_on : Solid m_ways_on := solid_def _ _ _
theorem fm_ways_on (T : Tx0 ec0 ec1 K mg) : Fm P w K mg base (clsOf ec0 ec1) 2 "ways_on" (topS 46) ["n", "family", "lot"] m_ways_on := by
  obtain ⟨f, fd, h1, h2, h3⟩ := T.f_ways_on
  exact fm_def (k := 1) h2 sc_ways_on h1 h3 rfl rfl fun cdv A outer s H E Fz hr => (ppss_cons (pps_setN (i := 3) sc_ways_on.nd rfl (by first | exact .inl rfl | exact .inr rfl) (ppn_lst ppa_nil))
    (ppss_cons (pps_for (passes_of rfl) rfl (ppi_seq (pp_call (fm_all_goods T) solid_all_goods (hr.mono (by decide)) (takes_of rfl rfl rfl rfl) rfl (ppa_cons (pp_pv 0) ppa_nil))) (ppg_name (i := 4) sc_ways_on.nd rfl (by first | exact .inl rfl | exact .inr rfl)) (ppss_one (pps_if (PPW.pt (ppw_and (ppt_cmp (op_notInP hr.units) (pp_pv 4) (pp_pv 2) (by rfl)) (ppw_and1 (ppt_cmp (op_inP hr.units) (pp_ty1 call_tupleP rfl T.z_tuple rfl (PPN.pp (ppn_sorted hr.units rfl T.z_sorted (pp_tup (ppa_star (pp_pv 2) (ppa_cons (pp_pv 4) ppa_nil)))))) (pp_pv 1) (by rfl))))) (ppss_one (pps_app (i := 3) rfl (pp_tup (ppa_cons (pp_pv 4) (ppa_cons (pp_ty1 call_tupleP rfl T.z_tuple rfl (PPN.pp (ppn_sorted hr.units rfl T.z_sorted (pp_tup (ppa_star (pp_pv 2) (ppa_cons (pp_pv 4) ppa_nil)))))) ppa_nil))))) ppss_nil)))
    (ppss_fz 3 (ppss_one (pps_ret (pp_pv 3))))))
/-! orders_from -/
theorem sc_orders_from : FnScope ["n", "family", "row", "found", "good", "_"] ["n", "family", "row"] (defScope (topS 47)) := ⟨rfl, rfl, rfl, by decide +kernel, rfl, by decide +kernel, by decide +kernel⟩
def b_orders_from (m : List D → Res D) : CS := (sSeq (sIf (tV (c2 eqD (c1 lenD (cV 2)) (cV 0))) (sRet (cN (nLst (aC (cV 2) aN)))) sNx)
    (sSeq (fun e => inE 3 e (sSetN 3 (nLst aN) e))
    (sSeq (sFor (iA (cCall m_ways_on (aC (cV 0) (aC (cV 1) (aC (c1 tupleD (cN (nSrt (cV 2)))) aN))))) (gT (gsC (gN 4) (gsC (gN 5) gsN))) (sExt 3 (cCall m (aC (cV 0) (aC (cV 1) (aC (cTup (aS (cV 2) (aC (cV 4) aN))) aN))))))
    (sFz 3 (sRet (cV 3))))))
def m_orders_from : Nat → List D → Res D
  | 0 => fun _ => .bad
  | j + 1 => cDef 3 3 (b_orders_from (m_orders_from j))
theorem solid_orders_from : ∀ j, Solid (m_orders_from j)
  | 0 => solid_bad
  | _ + 1 => solid_def _ _ _
theorem st_orders_from (T : Tx0 ec0 ec1 K mg) {k : Nat} (hk : 2 ≤ k) {m : List D → Res D} (hm : Solid m) (ih : Fm P w K mg base (clsOf ec0 ec1) k "orders_from" (topS 47) ["n", "family", "row"] m) : Fm P w K mg base (clsOf ec0 ec1) (k + 1) "orders_from" (topS 47) ["n", "family", "row"] (cDef 3 3 (b_orders_from m)) := by
  obtain ⟨f, fd, h1, h2, h3⟩ := T.f_orders_from
  exact fm_def (k := k) h2 sc_orders_from h1 h3 rfl rfl fun cdv A outer s H E Fz hr => (ppss_cons (pps_if (ppt_cmp (op_eqP hr.units) (pp_b1 call_lenP rfl T.z_len rfl (pp_pv 2)) (pp_pv 0) (nomark _)) (ppss_one (pps_ret (PPN.pp (ppn_lst (ppa_cons (pp_pv 2) ppa_nil))))) ppss_nil)
    (ppss_cons (pps_setN (i := 3) sc_orders_from.nd rfl (by first | exact .inl rfl | exact .inr rfl) (ppn_lst ppa_nil))
    (ppss_cons (pps_for (passes_of rfl) rfl (ppi_seq (pp_call (fm_ways_on T) solid_ways_on (hr.mono (by omega)) (takes_of rfl rfl rfl rfl) rfl (ppa_cons (pp_pv 0) (ppa_cons (pp_pv 1) (ppa_cons (pp_ty1 call_tupleP rfl T.z_tuple rfl (PPN.pp (ppn_sorted hr.units rfl T.z_sorted (pp_pv 2)))) ppa_nil))))) (ppg_tup rfl (ppgs_cons (ppg_name (i := 4) sc_orders_from.nd rfl (by first | exact .inl rfl | exact .inr rfl)) (ppgs_cons (ppg_name (i := 5) sc_orders_from.nd rfl (by first | exact .inl rfl | exact .inr rfl)) ppgs_nil))) (ppss_one (pps_ext (i := 3) rfl (pp_call ih hm hr (takes_of rfl rfl rfl rfl) rfl (ppa_cons (pp_pv 0) (ppa_cons (pp_pv 1) (ppa_cons (pp_tup (ppa_star (pp_pv 2) (ppa_cons (pp_pv 4) ppa_nil))) ppa_nil)))))))
    (ppss_fz 3 (ppss_one (pps_ret (pp_pv 3)))))))
theorem fm_orders_from (T : Tx0 ec0 ec1 K mg) : ∀ j, Fm P w K mg base (clsOf ec0 ec1) (2 + j) "orders_from" (topS 47) ["n", "family", "row"] (m_orders_from j) := fm_rec (by obtain ⟨f, fd, h1, h2, h3⟩ := T.f_orders_from; exact fm_bad h2 h1 h3) fun j ih => st_orders_from T (Nat.le_add_right _ _) (solid_orders_from j) ih
/-! let_orders -/
theorem sc_let_orders : FnScope ["n", "family", "own"] ["n", "family"] (defScope (topS 48)) := ⟨rfl, rfl, rfl, by decide +kernel, rfl, by decide +kernel, by decide +kernel⟩
def b_let_orders : CS := (sSeq (sSet 2 (cCall m_sure_family (aC (cV 0) (aC (cV 1) aN))))
    (sRet (cCall (m_orders_from 14) (aC (cV 0) (aC (cV 2) (aC (cTup aN) aN))))))
def m_let_orders : List D → Res D := cDef 2 1 b_let_orders
theorem solid_let_orders : Solid m_let_orders := solid_def _ _ _
theorem fm_let_orders (T : Tx0 ec0 ec1 K mg) : Fm P w K mg base (clsOf ec0 ec1) 18 "let_orders" (topS 48) ["n", "family"] m_let_orders := by
  obtain ⟨f, fd, h1, h2, h3⟩ := T.f_let_orders
  exact fm_def (k := 17) h2 sc_let_orders h1 h3 rfl rfl fun cdv A outer s H E Fz hr => (ppss_cons (pps_set (i := 2) sc_let_orders.nd rfl (by first | exact .inl rfl | exact .inr rfl) (pp_call (fm_sure_family T) solid_sure_family (hr.mono (by decide)) (takes_of rfl rfl rfl rfl) rfl (ppa_cons (pp_pv 0) (ppa_cons (pp_pv 1) ppa_nil))))
    (ppss_one (pps_ret (pp_call (fm_orders_from T 14) (solid_orders_from 14) (hr.mono (by decide)) (takes_of rfl rfl rfl rfl) rfl (ppa_cons (pp_pv 0) (ppa_cons (pp_pv 2) (ppa_cons (pp_tup ppa_nil) ppa_nil)))))))
/-! is_order -/
theorem sc_is_order : FnScope ["n", "thing", "good"] ["n", "thing"] (defScope (topS 21)) := ⟨rfl, rfl, rfl, by decide +kernel, rfl, by decide +kernel, by decide +kernel⟩
def b_is_order : CS := (sSeq (sIf (tOr (tNot (tV (cCall m_is_tuple_of (aC (cV 1) (aC (cV 0) aN))))) (tNot (tV (c1 allD (cN (nLcE (iA (cV 1)) [2] (gN 2) tYesC (cCall m_is_below (aC (cV 2) (aC (cV 0) aN))))))))) (sRet (cC (.bl false))) sNx)
    (sRet (c2 eqD (cLS (cV 1)) (c1 lenD (cV 1)))))
def m_is_order : List D → Res D := cDef 2 1 b_is_order
theorem solid_is_order : Solid m_is_order := solid_def _ _ _
theorem fm_is_order (T : Tx0 ec0 ec1 K mg) : Fm P w K mg base (clsOf ec0 ec1) 4 "is_order" (topS 21) ["n", "thing"] m_is_order := by
  obtain ⟨f, fd, h1, h2, h3⟩ := T.f_is_order
  exact fm_def (k := 3) h2 sc_is_order h1 h3 rfl rfl fun cdv A outer s H E Fz hr => (ppss_cons (pps_if (PPW.pt (ppw_or (ppt_not (ppt_val (pp_call (fm_is_tuple_of T) solid_is_tuple_of (hr.mono (by decide)) (takes_of rfl rfl rfl rfl) rfl (ppa_cons (pp_pv 1) (ppa_cons (pp_pv 0) ppa_nil))))) (ppw_or1 (ppt_not (ppt_val (pp_b1 (call_allP rfl) rfl T.z_all rfl (PPN.pp (ppn_lcE (own := [("good", 2)]) rfl rfl (takes_of rfl rfl rfl rfl) rfl sc_is_order.nd (ppi_seq (pp_pv 1)) (blk_of rfl (by rfl)) (fun _ _ _ _ _ _ => (ppgw_name (i := 2) sc_is_order.nd rfl (by first | exact .inl rfl | exact .inr rfl) (by decide))) (fun _ _ _ _ _ _ _ tkB => ppts_nil) (fun _ _ _ _ _ _ _ tkB => (pp_call (fm_is_below T) solid_is_below (hr.mono (by decide)) tkB rfl (ppa_cons (pp_pv 2) (ppa_cons (pp_pv 0) ppa_nil)))))))))))) (ppss_one (pps_ret pp_bl)) ppss_nil)
    (ppss_one (pps_ret (pp_cmp (op_eqP hr.units) (pp_lenset rfl hr.units rfl T.z_len rfl T.z_set (pp_pv 1)) (pp_b1 call_lenP rfl T.z_len rfl (pp_pv 1)) (nomark _)))))
/-! order_told -/
theorem sc_order_told : FnScope ["n", "order", "own"] ["n", "order"] (defScope (topS 36)) := ⟨rfl, rfl, rfl, by decide +kernel, rfl, by decide +kernel, by decide +kernel⟩
def b_order_told : CS := (sSeq (sSet 2 (cCall (m_tupled 14) (aC (cV 1) aN)))
    (sSeq (sIf (tNot (tV (cCall m_is_order (aC (cV 0) (aC (cV 2) aN))))) (sRaise 0) sNx)
    (sRet (cV 2))))
def m_order_told : List D → Res D := cDef 2 1 b_order_told
theorem solid_order_told : Solid m_order_told := solid_def _ _ _
theorem fm_order_told (T : Tx0 ec0 ec1 K mg) : Fm P w K mg base (clsOf ec0 ec1) 15 "order_told" (topS 36) ["n", "order"] m_order_told := by
  obtain ⟨f, fd, h1, h2, h3⟩ := T.f_order_told
  exact fm_def (k := 14) h2 sc_order_told h1 h3 rfl rfl fun cdv A outer s H E Fz hr => (ppss_cons (pps_set (i := 2) sc_order_told.nd rfl (by first | exact .inl rfl | exact .inr rfl) (pp_call (fm_tupled T 14) (solid_tupled 14) (hr.mono (by decide)) (takes_of rfl rfl rfl rfl) rfl (ppa_cons (pp_pv 1) ppa_nil)))
    (ppss_cons (pps_if (ppt_not (ppt_val (pp_call (fm_is_order T) solid_is_order (hr.mono (by decide)) (takes_of rfl rfl rfl rfl) rfl (ppa_cons (pp_pv 0) (ppa_cons (pp_pv 2) ppa_nil))))) (ppss_one (pps_raise (c := 0) rfl (takes_of rfl rfl rfl rfl) (pmk_own0 PySem.F.excBase_ValueError T.o_Unfit.x T.o_Unfit.g T.o_Unfit.k (raises_own T.o_Unfit.b T.o_Unfit.t) rfl))) ppss_nil)
    (ppss_one (pps_ret (pp_pv 2)))))
/-! line_family -/
theorem sc_line_family : FnScope ["n", "line", "own", "found", "begin", "end"] ["n", "line"] (defScope (topS 52)) := ⟨rfl, rfl, rfl, by decide +kernel, rfl, by decide +kernel, by decide +kernel⟩
def b_line_family : CS := (sSeq (sSet 2 (cCall m_order_told (aC (cCall m_sure_goods (aC (cV 0) aN)) (aC (cV 1) aN))))
    (sSeq (fun e => inE 3 e (sSetN 3 (nLst (aC (cTup aN) aN)) e))
    (sSeq (sFor (iR rng1 (aC (cV 0) aN)) (gN 4) (sFor (iR rng2 (aC (c2 addD (cV 4) (cC (.int 1))) (aC (c2 addD (cV 0) (cC (.int 1))) aN))) (gN 5) (sApp 3 (c1 tupleD (cN (nSrt (cSl (cV 2) (oS (cV 4)) (oS (cV 5)))))))))
    (sFz 3 (sRet (cCall m_in_order (aC (cV 3) aN)))))))
def m_line_family : List D → Res D := cDef 2 4 b_line_family
theorem solid_line_family : Solid m_line_family := solid_def _ _ _
theorem fm_line_family (T : Tx0 ec0 ec1 K mg) : Fm P w K mg base (clsOf ec0 ec1) 16 "line_family" (topS 52) ["n", "line"] m_line_family := by
  obtain ⟨f, fd, h1, h2, h3⟩ := T.f_line_family
  exact fm_def (k := 15) h2 sc_line_family h1 h3 rfl rfl fun cdv A outer s H E Fz hr => (ppss_cons (pps_set (i := 2) sc_line_family.nd rfl (by first | exact .inl rfl | exact .inr rfl) (pp_call (fm_order_told T) solid_order_told (hr.mono (by decide)) (takes_of rfl rfl rfl rfl) rfl (ppa_cons (pp_call (fm_sure_goods T) solid_sure_goods (hr.mono (by decide)) (takes_of rfl rfl rfl rfl) rfl (ppa_cons (pp_pv 0) ppa_nil)) (ppa_cons (pp_pv 1) ppa_nil))))
    (ppss_cons (pps_setN (i := 3) sc_line_family.nd rfl (by first | exact .inl rfl | exact .inr rfl) (ppn_lst (ppa_cons (pp_tup ppa_nil) ppa_nil)))
    (ppss_cons (pps_for (passes_of rfl) rfl (ppi_rng1 rfl T.z_range (ppa_cons (pp_pv 0) ppa_nil)) (ppg_name (i := 4) sc_line_family.nd rfl (by first | exact .inl rfl | exact .inr rfl)) (ppss_one (pps_for (passes_of rfl) rfl (ppi_rng2 rfl T.z_range (ppa_cons (pp_op op_addP (pp_pv 4) pp_int) (ppa_cons (pp_op op_addP (pp_pv 0) pp_int) ppa_nil))) (ppg_name (i := 5) sc_line_family.nd rfl (by first | exact .inl rfl | exact .inr rfl)) (ppss_one (pps_app (i := 3) rfl (pp_ty1 call_tupleP rfl T.z_tuple rfl (PPN.pp (ppn_sorted hr.units rfl T.z_sorted (pp_slice (pp_pv 2) (ppo_some (pp_pv 4)) (ppo_some (pp_pv 5)))))))))))
    (ppss_fz 3 (ppss_one (pps_ret (pp_call (fm_in_order T) solid_in_order (hr.mono (by decide)) (takes_of rfl rfl rfl rfl) rfl (ppa_cons (pp_pv 3) ppa_nil))))))))
/-! lots_reached -/
theorem sc_lots_reached : FnScope ["n", "family", "there", "back", "lot", "_", "more"] ["n", "family"] (defScope (topS 49)) := ⟨rfl, rfl, rfl, by decide +kernel, rfl, by decide +kernel, by decide +kernel⟩
def b_lots_reached : CS := (sSeq (sParU 2 3 (uD1 (cTup aN) (cC (.bl true))) (uD1 (cCall m_all_goods (aC (cV 0) aN)) (cC (.bl true))))
    (sSeq (sFor (iA (cV 1)) (gN 4) (sIf (tV (c2 inD2 (cV 4) (cV 2))) (sFor (iA (cCall m_ways_on (aC (cV 0) (aC (cV 1) (aC (cV 4) aN))))) (gT (gsC (gN 5) (gsC (gN 6) gsN))) (sPut 2 (cV 6) (cC (.bl true)))) sNx))
    (sFz 2 (sSeq (sFor (iA (c1 revD (cV 1))) (gN 4) (sIf (tV (c1 anyD (cN (nLc (iA (cCall m_ways_on (aC (cV 0) (aC (cV 1) (aC (cV 4) aN))))) [5, 6] (gT (gsC (gN 5) (gsC (gN 6) gsN))) tYesC (c2 inD2 (cV 6) (cV 3)))))) (sPut 3 (cV 4) (cC (.bl true))) sNx))
    (sFz 3 (sRet (c1 tupleD (cN (nLc (iA (cV 1)) [4] (gN 4) (tAnd (tV (c2 inD2 (cV 4) (cV 2))) (tV (c2 inD2 (cV 4) (cV 3)))) (cV 4))))))))))
def m_lots_reached : List D → Res D := cDef 2 5 b_lots_reached
theorem solid_lots_reached : Solid m_lots_reached := solid_def _ _ _
theorem fm_lots_reached (T : Tx0 ec0 ec1 K mg) : Fm P w K mg base (clsOf ec0 ec1) 3 "lots_reached" (topS 49) ["n", "family"] m_lots_reached := by
  obtain ⟨f, fd, h1, h2, h3⟩ := T.f_lots_reached
  exact fm_def (k := 2) h2 sc_lots_reached h1 h3 rfl rfl fun cdv A outer s H E Fz hr => (ppss_cons (pps_asgU (i := 2) (j := 3) rfl sc_lots_reached.nd rfl rfl (by first | exact .inl rfl | exact .inr rfl) (by first | exact .inl rfl | exact .inr rfl) (ppu_disp1 hr.units (pp_tup ppa_nil) pp_bl) (ppu_disp1 hr.units (pp_call (fm_all_goods T) solid_all_goods (hr.mono (by decide)) (takes_of rfl rfl rfl rfl) rfl (ppa_cons (pp_pv 0) ppa_nil)) pp_bl))
    (ppss_cons (pps_for (passes_of rfl) rfl (ppi_seq (pp_pv 1)) (ppg_name (i := 4) sc_lots_reached.nd rfl (by first | exact .inl rfl | exact .inr rfl)) (ppss_one (pps_if (ppt_cmp (op_inP2 hr.units) (pp_pv 4) (pp_pv 2) (by rfl)) (ppss_one (pps_for (passes_of rfl) rfl (ppi_seq (pp_call (fm_ways_on T) solid_ways_on (hr.mono (by decide)) (takes_of rfl rfl rfl rfl) rfl (ppa_cons (pp_pv 0) (ppa_cons (pp_pv 1) (ppa_cons (pp_pv 4) ppa_nil))))) (ppg_tup rfl (ppgs_cons (ppg_name (i := 5) sc_lots_reached.nd rfl (by first | exact .inl rfl | exact .inr rfl)) (ppgs_cons (ppg_name (i := 6) sc_lots_reached.nd rfl (by first | exact .inl rfl | exact .inr rfl)) ppgs_nil))) (ppss_one (pps_put (i := 2) hr.units rfl (pp_pv 6) pp_bl)))) ppss_nil)))
    (ppss_fz 2 (ppss_cons (pps_for (passes_of rfl) rfl (ppi_seq (pp_rev (pp_pv 1))) (ppg_name (i := 4) sc_lots_reached.nd rfl (by first | exact .inl rfl | exact .inr rfl)) (ppss_one (pps_if (ppt_val (pp_b1 (call_anyP rfl) rfl T.z_any rfl (PPN.pp (ppn_lc (own := [("_", 5), ("more", 6)]) rfl sc_lots_reached.nd (ppi_seq (pp_call (fm_ways_on T) solid_ways_on (hr.mono (by decide)) (takes_of rfl rfl rfl rfl) rfl (ppa_cons (pp_pv 0) (ppa_cons (pp_pv 1) (ppa_cons (pp_pv 4) ppa_nil))))) (blk_of rfl (by rfl)) (fun _ _ _ _ _ => (ppgw_tup rfl (ppgws_cons (ppgw_name (i := 5) sc_lots_reached.nd rfl (by first | exact .inl rfl | exact .inr rfl) (by decide)) (ppgws_cons (ppgw_name (i := 6) sc_lots_reached.nd rfl (by first | exact .inl rfl | exact .inr rfl) (by decide)) ppgws_nil)))) (fun _ _ _ _ _ => ppts_nil) (fun _ _ _ _ _ => (pp_cmp (op_inP2 hr.units) (pp_pv 6) (pp_pv 3) (by rfl))))))) (ppss_one (pps_put (i := 3) hr.units rfl (pp_pv 4) pp_bl)) ppss_nil)))
    (ppss_fz 3 (ppss_one (pps_ret (pp_ty1 call_tupleP rfl T.z_tuple rfl (PPN.pp (ppn_lc (own := [("lot", 4)]) rfl sc_lots_reached.nd (ppi_seq (pp_pv 1)) (blk_of rfl (by rfl)) (fun _ _ _ _ _ => (ppgw_name (i := 4) sc_lots_reached.nd rfl (by first | exact .inl rfl | exact .inr rfl) (by decide))) (fun _ _ _ _ _ => (ppts_one (PPW.pt (ppw_and (ppt_cmp (op_inP2 hr.units) (pp_pv 4) (pp_pv 2) (by rfl)) (ppw_and1 (ppt_cmp (op_inP2 hr.units) (pp_pv 4) (pp_pv 3) (by rfl))))))) (fun _ _ _ _ _ => (pp_pv 4))))))))))))
/-! reached_lots -/
theorem sc_reached_lots : FnScope ["n", "family"] ["n", "family"] (defScope (topS 50)) := ⟨rfl, rfl, rfl, by decide +kernel, rfl, by decide +kernel, by decide +kernel⟩
def b_reached_lots : CS := (sRet (cCall m_lots_reached (aC (cV 0) (aC (cCall m_sure_family (aC (cV 0) (aC (cV 1) aN))) aN))))
def m_reached_lots : List D → Res D := cDef 2 0 b_reached_lots
theorem solid_reached_lots : Solid m_reached_lots := solid_def _ _ _
theorem fm_reached_lots (T : Tx0 ec0 ec1 K mg) : Fm P w K mg base (clsOf ec0 ec1) 18 "reached_lots" (topS 50) ["n", "family"] m_reached_lots := by
  obtain ⟨f, fd, h1, h2, h3⟩ := T.f_reached_lots
  exact fm_def (k := 17) h2 sc_reached_lots h1 h3 rfl rfl fun cdv A outer s H E Fz hr => (ppss_one (pps_ret (pp_call (fm_lots_reached T) solid_lots_reached (hr.mono (by decide)) (takes_of rfl rfl rfl rfl) rfl (ppa_cons (pp_pv 0) (ppa_cons (pp_call (fm_sure_family T) solid_sure_family (hr.mono (by decide)) (takes_of rfl rfl rfl rfl) rfl (ppa_cons (pp_pv 0) (ppa_cons (pp_pv 1) ppa_nil))) ppa_nil)))))
/-! laid_from -/
theorem sc_laid_from : FnScope ["facts", "row", "goods", "found", "rest", "can", "good"] ["facts", "row", "goods"] (defScope (topS 40)) := ⟨rfl, rfl, rfl, by decide +kernel, rfl, by decide +kernel, by decide +kernel⟩
def b_laid_from : CS := (sSeq (sParU 3 4 (uD (cV 1)) (uL (nList (cV 2))))
    (sWhl (tV (cC (.bl true))) (sSeq (fun e => inE 5 e (sSetN 5 (nB 4 (nLcE (iA (cV 4)) [6] (gN 6) (tV (cCall m_lets (aC (cV 0) (aC (cTup (aS (cV 3) (aC (cV 6) aN))) aN)))) (cV 6))) e))
    (sFz 5 (sSeq (sIf (tV (c2 eqD (cV 5) (cN (nLst aN)))) (sRet (cV 3)) sNx)
    (sSeq (sSet 3 (cTup (aS (cV 3) (aC (c1 minD (cV 5)) aN))))
    (sRem 4 (c1 minD (cV 5))))))) 100000))
def m_laid_from : List D → Res D := cDef 3 4 b_laid_from
theorem solid_laid_from : Solid m_laid_from := solid_def _ _ _
theorem fm_laid_from (T : Tx0 ec0 ec1 K mg) : Fm P w K mg base (clsOf ec0 ec1) 2 "laid_from" (topS 40) ["facts", "row", "goods"] m_laid_from := by
  obtain ⟨f, fd, h1, h2, h3⟩ := T.f_laid_from
  exact fm_def (k := 1) h2 sc_laid_from h1 h3 rfl rfl fun cdv A outer s H E Fz hr => (ppss_cons (pps_asgU (i := 3) (j := 4) rfl sc_laid_from.nd rfl rfl (by first | exact .inl rfl | exact .inr rfl) (by first | exact .inl rfl | exact .inr rfl) (ppu_dat (pp_pv 1)) (ppu_lst (ppn_list rfl T.z_list (pp_pv 2))))
    (ppss_one (pps_while 100000 (passes_of rfl) (ppt_val pp_bl) (ppss_cons (pps_setLcEB 4 (i := 5) (own := [("good", 6)]) rfl rfl (takes_of rfl rfl rfl rfl) rfl sc_laid_from.nd rfl rfl (sw_true rfl rfl rfl rfl) (ppi_seq (pp_pv 4)) (blk_of rfl (by rfl)) (fun _ _ _ _ _ _ => (ppgw_name (i := 6) sc_laid_from.nd rfl (by first | exact .inl rfl | exact .inr rfl) (by decide))) (fun _ _ _ _ _ _ _ tkB => (ppts_one (ppt_val (pp_call (fm_lets T) solid_lets (hr.mono (by decide)) tkB rfl (ppa_cons (pp_pv 0) (ppa_cons (pp_tup (ppa_star (pp_pv 3) (ppa_cons (pp_pv 6) ppa_nil))) ppa_nil)))))) (fun _ _ _ _ _ _ _ tkB => (pp_pv 6)))
    (ppss_fz 5 (ppss_cons (pps_if (ppt_cmp (op_eqP hr.units) (pp_pv 5) (PPN.pp (ppn_lst ppa_nil)) (nomark _)) (ppss_one (pps_ret (pp_pv 3))) ppss_nil)
    (ppss_cons (pps_set (i := 3) sc_laid_from.nd rfl (by first | exact .inl rfl | exact .inr rfl) (pp_tup (ppa_star (pp_pv 3) (ppa_cons (pp_b1 (call_minP rfl) rfl T.z_min rfl (pp_pv 5)) ppa_nil))))
    (ppss_one (pps_rem (i := 4) rfl (takes_of rfl rfl rfl rfl) rfl (pp_b1 (call_minP rfl) rfl T.z_min rfl (pp_pv 5)))))))))))
/-! laid -/
theorem sc_laid : FnScope ["n", "facts"] ["n", "facts"] (defScope (topS 41)) := ⟨rfl, rfl, rfl, by decide +kernel, rfl, by decide +kernel, by decide +kernel⟩
def b_laid : CS := (sRet (cCall m_laid_from (aC (cCall m_sure_facts (aC (cV 0) (aC (cV 1) aN))) (aC (cTup aN) (aC (cCall m_all_goods (aC (cV 0) aN)) aN)))))
def m_laid : List D → Res D := cDef 2 0 b_laid
theorem solid_laid : Solid m_laid := solid_def _ _ _
theorem fm_laid (T : Tx0 ec0 ec1 K mg) : Fm P w K mg base (clsOf ec0 ec1) 16 "laid" (topS 41) ["n", "facts"] m_laid := by
  obtain ⟨f, fd, h1, h2, h3⟩ := T.f_laid
  exact fm_def (k := 15) h2 sc_laid h1 h3 rfl rfl fun cdv A outer s H E Fz hr => (ppss_one (pps_ret (pp_call (fm_laid_from T) solid_laid_from (hr.mono (by decide)) (takes_of rfl rfl rfl rfl) rfl (ppa_cons (pp_call (fm_sure_facts T) solid_sure_facts (hr.mono (by decide)) (takes_of rfl rfl rfl rfl) rfl (ppa_cons (pp_pv 0) (ppa_cons (pp_pv 1) ppa_nil))) (ppa_cons (pp_tup ppa_nil) (ppa_cons (pp_call (fm_all_goods T) solid_all_goods (hr.mono (by decide)) (takes_of rfl rfl rfl rfl) rfl (ppa_cons (pp_pv 0) ppa_nil)) ppa_nil))))))
/-! some_order -/
theorem sc_some_order : FnScope ["n", "facts", "found"] ["n", "facts"] (defScope (topS 42)) := ⟨rfl, rfl, rfl, by decide +kernel, rfl, by decide +kernel, by decide +kernel⟩
def b_some_order : CS := (sSeq (sSet 2 (cCall m_laid (aC (cV 0) (aC (cV 1) aN))))
    (sSeq (sIf (tV (c2 ltD2 (c1 lenD (cV 2)) (cV 0))) (sRaise 1) sNx)
    (sRet (cV 2))))
def m_some_order : List D → Res D := cDef 2 1 b_some_order
theorem solid_some_order : Solid m_some_order := solid_def _ _ _
theorem fm_some_order (T : Tx0 ec0 ec1 K mg) : Fm P w K mg base (clsOf ec0 ec1) 17 "some_order" (topS 42) ["n", "facts"] m_some_order := by
  obtain ⟨f, fd, h1, h2, h3⟩ := T.f_some_order
  exact fm_def (k := 16) h2 sc_some_order h1 h3 rfl rfl fun cdv A outer s H E Fz hr => (ppss_cons (pps_set (i := 2) sc_some_order.nd rfl (by first | exact .inl rfl | exact .inr rfl) (pp_call (fm_laid T) solid_laid (hr.mono (by decide)) (takes_of rfl rfl rfl rfl) rfl (ppa_cons (pp_pv 0) (ppa_cons (pp_pv 1) ppa_nil))))
    (ppss_cons (pps_if (ppt_cmp (op_ltP2 hr.units) (pp_b1 call_lenP rfl T.z_len rfl (pp_pv 2)) (pp_pv 0) (nomark _)) (ppss_one (pps_raise (c := 1) rfl (takes_of rfl rfl rfl rfl) (pmk_own0 PySem.F.excBase_ValueError T.o_NoPaper.x T.o_NoPaper.g T.o_NoPaper.k (raises_own T.o_NoPaper.b T.o_NoPaper.t) rfl))) ppss_nil)
    (ppss_one (pps_ret (pp_pv 2)))))
/-! waits_by -/
theorem sc_waits_by : FnScope ["facts", "good", "left", "goods", "k", "menu", "lot"] ["facts", "good", "left"] (defScope (topS 43)) := ⟨rfl, rfl, rfl, by decide +kernel, rfl, by decide +kernel, by decide +kernel⟩
def b_waits_by : CS := (sSeq (fun e => inE 3 e (sSetN 3 (nLcE (iR enumD (aC (cV 0) aN)) [4, 5, 6] (gT (gsC (gN 4) (gsC (gT (gsC (gN 5) (gsC (gN 6) gsN))) gsN))) (tAnd (tV (c2 inD (cV 1) (cV 5))) (tAnd (tV (c2 notInD (cV 1) (cV 6))) (tV (cCall m_is_part (aC (cV 6) (aC (cV 2) aN)))))) (cV 4)) e))
    (sFz 3 (sRet (c2 ixD (cV 3) (cC (.int 0))))))
def m_waits_by : List D → Res D := cDef 3 4 b_waits_by
theorem solid_waits_by : Solid m_waits_by := solid_def _ _ _
theorem fm_waits_by (T : Tx0 ec0 ec1 K mg) : Fm P w K mg base (clsOf ec0 ec1) 2 "waits_by" (topS 43) ["facts", "good", "left"] m_waits_by := by
  obtain ⟨f, fd, h1, h2, h3⟩ := T.f_waits_by
  exact fm_def (k := 1) h2 sc_waits_by h1 h3 rfl rfl fun cdv A outer s H E Fz hr => (ppss_cons (pps_setLcE (i := 3) (own := [("k", 4), ("menu", 5), ("lot", 6)]) rfl rfl (takes_of rfl rfl rfl rfl) rfl sc_waits_by.nd rfl rfl (sw_true rfl rfl rfl rfl) (ppi_enum rfl T.z_enumerate (ppa_cons (pp_pv 0) ppa_nil)) (blk_of rfl (by rfl)) (fun _ _ _ _ _ _ => (ppgw_tup rfl (ppgws_cons (ppgw_name (i := 4) sc_waits_by.nd rfl (by first | exact .inl rfl | exact .inr rfl) (by decide)) (ppgws_cons (ppgw_tup rfl (ppgws_cons (ppgw_name (i := 5) sc_waits_by.nd rfl (by first | exact .inl rfl | exact .inr rfl) (by decide)) (ppgws_cons (ppgw_name (i := 6) sc_waits_by.nd rfl (by first | exact .inl rfl | exact .inr rfl) (by decide)) ppgws_nil))) ppgws_nil)))) (fun _ _ _ _ _ _ _ tkB => (ppts_one (PPW.pt (ppw_and (ppt_cmp (op_inP hr.units) (pp_pv 1) (pp_pv 5) (by rfl)) (ppw_and (ppt_cmp (op_notInP hr.units) (pp_pv 1) (pp_pv 6) (by rfl)) (ppw_and1 (ppt_val (pp_call (fm_is_part T) solid_is_part (hr.mono (by decide)) tkB rfl (ppa_cons (pp_pv 6) (ppa_cons (pp_pv 2) ppa_nil)))))))))) (fun _ _ _ _ _ _ _ tkB => (pp_pv 4)))
    (ppss_fz 3 (ppss_one (pps_ret (pp_ix (pp_pv 3) pp_int)))))
/-! stuck_set -/
theorem sc_stuck_set : FnScope ["n", "facts", "own", "there", "left", "good"] ["n", "facts"] (defScope (topS 44)) := ⟨rfl, rfl, rfl, by decide +kernel, rfl, by decide +kernel, by decide +kernel⟩
def b_stuck_set : CS := (sSeq (sSet 2 (cCall m_sure_facts (aC (cV 0) (aC (cV 1) aN))))
    (sSeq (sSet 3 (cCall m_laid_from (aC (cV 2) (aC (cTup aN) (aC (cCall m_all_goods (aC (cV 0) aN)) aN)))))
    (sSeq (sSet 4 (c1 tupleD (cN (nLc (iA (cCall m_all_goods (aC (cV 0) aN))) [5] (gN 5) (tV (c2 notInD (cV 5) (cV 3))) (cV 5)))))
    (sSeq (sIf (tV (c2 eqD (cV 4) (cTup aN))) (sRaise 1) sNx)
    (sRet (c1 tupleD (cN (nLcE (iA (cV 4)) [5] (gN 5) tYesC (cTup (aC (cV 5) (aC (cCall m_waits_by (aC (cV 2) (aC (cV 5) (aC (cV 4) aN)))) aN)))))))))))
def m_stuck_set : List D → Res D := cDef 2 4 b_stuck_set
theorem solid_stuck_set : Solid m_stuck_set := solid_def _ _ _
theorem fm_stuck_set (T : Tx0 ec0 ec1 K mg) : Fm P w K mg base (clsOf ec0 ec1) 16 "stuck_set" (topS 44) ["n", "facts"] m_stuck_set := by
  obtain ⟨f, fd, h1, h2, h3⟩ := T.f_stuck_set
  exact fm_def (k := 15) h2 sc_stuck_set h1 h3 rfl rfl fun cdv A outer s H E Fz hr => (ppss_cons (pps_set (i := 2) sc_stuck_set.nd rfl (by first | exact .inl rfl | exact .inr rfl) (pp_call (fm_sure_facts T) solid_sure_facts (hr.mono (by decide)) (takes_of rfl rfl rfl rfl) rfl (ppa_cons (pp_pv 0) (ppa_cons (pp_pv 1) ppa_nil))))
    (ppss_cons (pps_set (i := 3) sc_stuck_set.nd rfl (by first | exact .inl rfl | exact .inr rfl) (pp_call (fm_laid_from T) solid_laid_from (hr.mono (by decide)) (takes_of rfl rfl rfl rfl) rfl (ppa_cons (pp_pv 2) (ppa_cons (pp_tup ppa_nil) (ppa_cons (pp_call (fm_all_goods T) solid_all_goods (hr.mono (by decide)) (takes_of rfl rfl rfl rfl) rfl (ppa_cons (pp_pv 0) ppa_nil)) ppa_nil)))))
    (ppss_cons (pps_set (i := 4) sc_stuck_set.nd rfl (by first | exact .inl rfl | exact .inr rfl) (pp_ty1 call_tupleP rfl T.z_tuple rfl (PPN.pp (ppn_lc (own := [("good", 5)]) rfl sc_stuck_set.nd (ppi_seq (pp_call (fm_all_goods T) solid_all_goods (hr.mono (by decide)) (takes_of rfl rfl rfl rfl) rfl (ppa_cons (pp_pv 0) ppa_nil))) (blk_of rfl (by rfl)) (fun _ _ _ _ _ => (ppgw_name (i := 5) sc_stuck_set.nd rfl (by first | exact .inl rfl | exact .inr rfl) (by decide))) (fun _ _ _ _ _ => (ppts_one (ppt_cmp (op_notInP hr.units) (pp_pv 5) (pp_pv 3) (by rfl)))) (fun _ _ _ _ _ => (pp_pv 5))))))
    (ppss_cons (pps_if (ppt_cmp (op_eqP hr.units) (pp_pv 4) (pp_tup ppa_nil) (nomark _)) (ppss_one (pps_raise (c := 1) rfl (takes_of rfl rfl rfl rfl) (pmk_own0 PySem.F.excBase_ValueError T.o_NoPaper.x T.o_NoPaper.g T.o_NoPaper.k (raises_own T.o_NoPaper.b T.o_NoPaper.t) rfl))) ppss_nil)
    (ppss_one (pps_ret (pp_ty1 call_tupleP rfl T.z_tuple rfl (PPN.pp (ppn_lcE (own := [("good", 5)]) rfl rfl (takes_of rfl rfl rfl rfl) rfl sc_stuck_set.nd (ppi_seq (pp_pv 4)) (blk_of rfl (by rfl)) (fun _ _ _ _ _ _ => (ppgw_name (i := 5) sc_stuck_set.nd rfl (by first | exact .inl rfl | exact .inr rfl) (by decide))) (fun _ _ _ _ _ _ _ tkB => ppts_nil) (fun _ _ _ _ _ _ _ tkB => (pp_tup (ppa_cons (pp_pv 5) (ppa_cons (pp_call (fm_waits_by T) solid_waits_by (hr.mono (by decide)) tkB rfl (ppa_cons (pp_pv 2) (ppa_cons (pp_pv 5) (ppa_cons (pp_pv 4) ppa_nil)))) ppa_nil)))))))))))))
/-! _law_orders_right -/
theorem sc__law_orders_right : FnScope ["first", "ring", "blank", "never", "got", "due", "things", "own"] [] (defScope (topS 64)) := ⟨rfl, rfl, rfl, by decide +kernel, rfl, by decide +kernel, by decide +kernel⟩
def b__law_orders_right : CS := (sSeq (sAsg (gT (gsC (gN 0) (gsC (gN 1) (gsC (gN 2) (gsC (gN 3) gsN))))) (cCall0 m__law_named))
    (sSeq (sSet 4 (cN (nLst (aC (cCall m_some_order (aC (cC (.int 3)) (aC (cV 0) aN))) (aC (cCallK m_some_order [1, 0] aN (aC (cCall (m__law_lists 14) (aC (cTup (aC (cTup (aC (cTup (aC (cC (.int 0)) (aC (cC (.int 1)) aN))) (aC (cTup (aC (cC (.int 1)) aN)) aN))) (aC (cTup (aC (cTup (aC (cC (.int 0)) (aC (cC (.int 2)) aN))) (aC (cTup (aC (cC (.int 2)) aN)) aN))) aN))) aN)) (aC (cC (.int 3)) aN))) (aC (cCall m_some_order (aC (cC (.int 1)) (aC (cTup aN) aN))) (aC (cCall m_let_orders (aC (cC (.int 3)) (aC (cCall m_let_lots (aC (cC (.int 3)) (aC (cV 0) aN))) aN))) (aC (cCallK m_let_orders [1, 0] aN (aC (cN (nLst (aC (cN (nLst aN)) (aC (cN (nLst (aC (cC (.int 0)) (aC (cC (.int 1)) aN)))) aN)))) (aC (cC (.int 2)) aN))) (aC (cCall m_let_orders (aC (cC (.int 1)) (aC (cTup (aC (cTup aN) (aC (cTup (aC (cC (.int 0)) aN)) aN))) aN))) aN)))))))))
    (sSeq (sSet 5 (cN (nLst (aC (cTup (aC (cC (.int 0)) (aC (cC (.int 1)) (aC (cC (.int 2)) aN)))) (aC (cTup (aC (cC (.int 1)) (aC (cC (.int 2)) (aC (cC (.int 0)) aN)))) (aC (cTup (aC (cC (.int 0)) aN)) (aC (cN (nLst (aC (cTup (aC (cC (.int 0)) (aC (cC (.int 1)) (aC (cC (.int 2)) aN)))) (aC (cTup (aC (cC (.int 0)) (aC (cC (.int 2)) (aC (cC (.int 1)) aN)))) (aC (cTup (aC (cC (.int 2)) (aC (cC (.int 0)) (aC (cC (.int 1)) aN)))) aN))))) (aC (cN (nLst aN)) (aC (cN (nLst (aC (cTup (aC (cC (.int 0)) aN)) aN))) aN)))))))))
    (sSeq (sSet 4 (c2 addD (cV 4) (cN (nLst (aC (cCall m_reached_lots (aC (cC (.int 3)) (aC (cTup (aC (cTup aN) (aC (cTup (aC (cC (.int 0)) aN)) (aC (cTup (aC (cC (.int 2)) aN)) (aC (cTup (aC (cC (.int 0)) (aC (cC (.int 1)) aN))) (aC (cTup (aC (cC (.int 0)) (aC (cC (.int 1)) (aC (cC (.int 2)) aN)))) aN)))))) aN))) (aC (cCallK m_reached_lots [1, 0] aN (aC (cN (nLst (aC (cN (nLst aN)) (aC (cN (nLst (aC (cC (.int 0)) (aC (cC (.int 1)) aN)))) aN)))) (aC (cC (.int 2)) aN))) (aC (cCall m_reached_lots (aC (cC (.int 3)) (aC (cCall m_let_lots (aC (cC (.int 3)) (aC (cV 0) aN))) aN))) (aC (cCall m_family_met (aC (cC (.int 3)) (aC (cCall m_let_lots (aC (cC (.int 3)) (aC (cV 0) aN))) (aC (cCall m_line_family (aC (cC (.int 3)) (aC (cTup (aC (cC (.int 0)) (aC (cC (.int 1)) (aC (cC (.int 2)) aN)))) aN))) aN)))) (aC (cCallK m_family_met [2, 1, 0] aN (aC (cN (nLst (aC (cN (nLst aN)) (aC (cN (nLst (aC (cC (.int 0)) (aC (cC (.int 1)) aN)))) aN)))) (aC (cN (nLst (aC (cN (nLst aN)) (aC (cN (nLst (aC (cC (.int 0)) aN))) (aC (cN (nLst (aC (cC (.int 0)) (aC (cC (.int 1)) aN)))) aN))))) (aC (cC (.int 2)) aN)))) aN)))))))))
    (sSeq (sSet 5 (c2 addD (cV 5) (cN (nLst (aC (cTup (aC (cTup aN) (aC (cTup (aC (cC (.int 0)) aN)) (aC (cTup (aC (cC (.int 0)) (aC (cC (.int 1)) aN))) (aC (cTup (aC (cC (.int 0)) (aC (cC (.int 1)) (aC (cC (.int 2)) aN)))) aN))))) (aC (cTup aN) (aC (cTup (aC (cTup aN) (aC (cTup (aC (cC (.int 0)) aN)) (aC (cTup (aC (cC (.int 2)) aN)) (aC (cTup (aC (cC (.int 0)) (aC (cC (.int 1)) aN))) (aC (cTup (aC (cC (.int 0)) (aC (cC (.int 2)) aN))) (aC (cTup (aC (cC (.int 0)) (aC (cC (.int 1)) (aC (cC (.int 2)) aN)))) aN))))))) (aC (cTup (aC (cTup aN) (aC (cTup (aC (cC (.int 0)) aN)) (aC (cTup (aC (cC (.int 2)) aN)) (aC (cTup (aC (cC (.int 0)) (aC (cC (.int 1)) aN))) (aC (cTup (aC (cC (.int 0)) (aC (cC (.int 1)) (aC (cC (.int 2)) aN)))) aN)))))) (aC (cTup (aC (cTup aN) (aC (cTup (aC (cC (.int 0)) (aC (cC (.int 1)) aN))) aN))) aN)))))))))
    (sSeq (sSet 4 (c2 addD (cV 4) (cN (nLst (aC (cCall m_line_family (aC (cC (.int 3)) (aC (cTup (aC (cC (.int 0)) (aC (cC (.int 1)) (aC (cC (.int 2)) aN)))) aN))) (aC (cCallK m_line_family [1, 0] aN (aC (cN (nLst (aC (cC (.int 1)) (aC (cC (.int 0)) (aC (cC (.int 2)) aN))))) (aC (cC (.int 3)) aN))) (aC (cCall m_line_family (aC (cC (.int 1)) (aC (cTup (aC (cC (.int 0)) aN)) aN))) (aC (cCall m_let_orders (aC (cC (.int 3)) (aC (cCall m_line_family (aC (cC (.int 3)) (aC (cTup (aC (cC (.int 0)) (aC (cC (.int 1)) (aC (cC (.int 2)) aN)))) aN))) aN))) (aC (c1 lenD (cCall m_let_orders (aC (cC (.int 4)) (aC (cCall m_line_family (aC (cC (.int 4)) (aC (cTup (aC (cC (.int 3)) (aC (cC (.int 1)) (aC (cC (.int 0)) (aC (cC (.int 2)) aN))))) aN))) aN)))) aN)))))))))
    (sSeq (sSet 5 (c2 addD (cV 5) (cN (nLst (aC (cTup (aC (cTup aN) (aC (cTup (aC (cC (.int 0)) aN)) (aC (cTup (aC (cC (.int 1)) aN)) (aC (cTup (aC (cC (.int 2)) aN)) (aC (cTup (aC (cC (.int 0)) (aC (cC (.int 1)) aN))) (aC (cTup (aC (cC (.int 1)) (aC (cC (.int 2)) aN))) (aC (cTup (aC (cC (.int 0)) (aC (cC (.int 1)) (aC (cC (.int 2)) aN)))) aN)))))))) (aC (cTup (aC (cTup aN) (aC (cTup (aC (cC (.int 0)) aN)) (aC (cTup (aC (cC (.int 1)) aN)) (aC (cTup (aC (cC (.int 2)) aN)) (aC (cTup (aC (cC (.int 0)) (aC (cC (.int 1)) aN))) (aC (cTup (aC (cC (.int 0)) (aC (cC (.int 2)) aN))) (aC (cTup (aC (cC (.int 0)) (aC (cC (.int 1)) (aC (cC (.int 2)) aN)))) aN)))))))) (aC (cTup (aC (cTup aN) (aC (cTup (aC (cC (.int 0)) aN)) aN))) (aC (cN (nLst (aC (cTup (aC (cC (.int 0)) (aC (cC (.int 1)) (aC (cC (.int 2)) aN)))) (aC (cTup (aC (cC (.int 1)) (aC (cC (.int 0)) (aC (cC (.int 2)) aN)))) (aC (cTup (aC (cC (.int 1)) (aC (cC (.int 2)) (aC (cC (.int 0)) aN)))) (aC (cTup (aC (cC (.int 2)) (aC (cC (.int 1)) (aC (cC (.int 0)) aN)))) aN)))))) (aC (cC (.int 8)) aN)))))))))
    (sSeq (sSet 6 (cN (nLst (aC (cTup (aC (cTup (aC (cC (.int 0)) (aC (cC (.int 2)) aN))) (aC (cTup (aC (cC (.int 1)) (aC (cC (.int 0)) aN))) (aC (cTup (aC (cC (.int 2)) (aC (cC (.int 1)) aN))) aN)))) (aC (cTup (aC (cTup (aC (cC (.int 0)) (aC (cC (.int 2)) aN))) (aC (cTup (aC (cC (.int 1)) (aC (cC (.int 0)) aN))) aN))) (aC (cTup (aC (cTup (aC (cC (.int 0)) (aC (cC (.int 0)) aN))) (aC (cTup (aC (cC (.int 1)) (aC (cC (.int 0)) aN))) (aC (cTup (aC (cC (.int 2)) (aC (cC (.int 1)) aN))) aN)))) (aC (cTup aN) (aC (cTup (aC (cTup (aC (cC (.int 1)) (aC (cC (.int 0)) aN))) (aC (cTup (aC (cC (.int 0)) (aC (cC (.int 2)) aN))) (aC (cTup (aC (cC (.int 2)) (aC (cC (.int 1)) aN))) aN)))) (aC (cN (nLst (aC (cTup (aC (cC (.int 0)) (aC (cC (.int 2)) aN))) (aC (cTup (aC (cC (.int 1)) (aC (cC (.int 0)) aN))) (aC (cTup (aC (cC (.int 2)) (aC (cC (.int 1)) aN))) aN))))) (aC (cTup (aC (cTup (aC (cC (.int 0)) (aC (cC (.int 2)) aN))) (aC (cTup (aC (cC (.int 1)) (aC (cC (.int 0)) aN))) (aC (cTup (aC (cC (.int 2)) (aC (cC (.int 3)) aN))) aN)))) (aC (cTup (aC (cTup (aC (cC (.int 0)) (aC (cC (.int 2)) aN))) (aC (cTup (aC (cC (.int 1)) (aC (cC (.int 0)) aN))) (aC (cTup (aC (cC (.int 3)) (aC (cC (.int 1)) aN))) aN)))) (aC (cC .non) (aC (cTup (aC (cTup (aC (cC (.int 0)) (aC (cC (.int 2)) aN))) (aC (cTup (aC (cC (.int 1)) (aC (cC (.bl false)) aN))) (aC (cTup (aC (cC (.int 2)) (aC (cC (.int 1)) aN))) aN)))) (aC (cTup (aC (cTup (aC (cC (.int 0)) (aC (cC (.int 2)) (aC (cC (.int 1)) aN)))) (aC (cTup (aC (cC (.int 1)) (aC (cC (.int 0)) aN))) (aC (cTup (aC (cC (.int 2)) (aC (cC (.int 1)) aN))) aN)))) aN))))))))))))))
    (sSeq (sSet 4 (c2 addD (cV 4) (cN (nLst (aC (cN (nLcE (iA (cV 6)) [7] (gN 7) tYesC (cCall m_is_stuck_set (aC (cC (.int 3)) (aC (cV 1) (aC (cV 7) aN)))))) (aC (cCall m_is_stuck_set (aC (cC (.int 2)) (aC (cV 3) (aC (cTup (aC (cTup (aC (cC (.int 0)) (aC (cC (.int 0)) aN))) aN)) aN)))) (aC (cCall m_is_stuck_set (aC (cC (.int 2)) (aC (cV 3) (aC (cTup (aC (cTup (aC (cC (.int 0)) (aC (cC (.int 0)) aN))) (aC (cTup (aC (cC (.int 1)) (aC (cC (.int 0)) aN))) aN))) aN)))) (aC (cCallK m_is_stuck_set [2, 1, 0] aN (aC (c2 ixD (cV 6) (cC (.int 0))) (aC (cCall (m__law_lists 14) (aC (cV 1) aN)) (aC (cC (.int 3)) aN)))) (aC (cCall m_is_stuck_set (aC (cC (.int 3)) (aC (cV 1) (aC (cCall m_stuck_set (aC (cC (.int 3)) (aC (cCall (m__law_lists 14) (aC (cV 1) aN)) aN))) aN)))) (aC (cCall m_is_stuck_set (aC (cC (.int 3)) (aC (cV 0) (aC (cTup (aC (cTup (aC (cC (.int 1)) (aC (cC (.int 0)) aN))) aN)) aN)))) (aC (cCall m_is_stuck_set (aC (cC (.int 3)) (aC (cTup (aC (cTup (aC (cTup (aC (cC (.int 0)) (aC (cC (.int 1)) aN))) (aC (cTup aN) aN))) aN)) (aC (cCall m_stuck_set (aC (cC (.int 3)) (aC (cTup (aC (cTup (aC (cTup (aC (cC (.int 0)) (aC (cC (.int 1)) aN))) (aC (cTup aN) aN))) aN)) aN))) aN)))) (aC (cCall m_is_stuck_set (aC (cC (.int 3)) (aC (cTup (aC (cTup (aC (cTup (aC (cC (.int 0)) (aC (cC (.int 1)) aN))) (aC (cTup aN) aN))) aN)) (aC (cTup (aC (cTup (aC (cC (.int 1)) (aC (cC (.int 0)) aN))) aN)) aN)))) aN))))))))))))
    (sSeq (sSet 5 (c2 addD (cV 5) (cN (nLst (aC (c2 addD (cN (nLst (aC (cC (.bl true)) aN))) (c2 mulD2 (cN (nLst (aC (cC (.bl false)) aN))) (cC (.int 10)))) (aC (cC (.bl true)) (aC (cC (.bl true)) (aC (cC (.bl true)) (aC (cC (.bl true)) (aC (cC (.bl false)) (aC (cC (.bl true)) (aC (cC (.bl true)) aN))))))))))))
    (sRet (cCall (m__law_same 14) (aC (cV 4) (aC (cV 5) aN))))))))))))))
def m__law_orders_right : List D → Res D := cDef 0 8 b__law_orders_right
theorem solid__law_orders_right : Solid m__law_orders_right := solid_def _ _ _
theorem fm__law_orders_right (T : Tx0 ec0 ec1 K mg) : Fm P w K mg base (clsOf ec0 ec1) 19 "_law_orders_right" (topS 64) [] m__law_orders_right := by
  obtain ⟨f, fd, h1, h2, h3⟩ := T.f__law_orders_right
  exact fm_def (k := 18) h2 sc__law_orders_right h1 h3 rfl rfl fun cdv A outer s H E Fz hr => (ppss_cons (pps_asg (pp_call0 (fm__law_named T) solid__law_named (hr.mono (by decide)) (takes_of rfl rfl rfl rfl) rfl) (ppg_tup rfl (ppgs_cons (ppg_name (i := 0) sc__law_orders_right.nd rfl (by first | exact .inl rfl | exact .inr rfl)) (ppgs_cons (ppg_name (i := 1) sc__law_orders_right.nd rfl (by first | exact .inl rfl | exact .inr rfl)) (ppgs_cons (ppg_name (i := 2) sc__law_orders_right.nd rfl (by first | exact .inl rfl | exact .inr rfl)) (ppgs_cons (ppg_name (i := 3) sc__law_orders_right.nd rfl (by first | exact .inl rfl | exact .inr rfl)) ppgs_nil))))))
    (ppss_cons (pps_set (i := 4) sc__law_orders_right.nd rfl (by first | exact .inl rfl | exact .inr rfl) (PPN.pp (ppn_lst (ppa_cons (pp_call (fm_some_order T) solid_some_order (hr.mono (by decide)) (takes_of rfl rfl rfl rfl) rfl (ppa_cons pp_int (ppa_cons (pp_pv 0) ppa_nil))) (ppa_cons (pp_callK0 (fm_some_order T) solid_some_order (hr.mono (by decide)) (takes_of rfl rfl rfl rfl) rfl (ppk_cons (pp_call (fm__law_lists T 14) (solid__law_lists 14) (hr.mono (by decide)) (takes_of rfl rfl rfl rfl) rfl (ppa_cons (pp_tup (ppa_cons (pp_tup (ppa_cons (pp_tup (ppa_cons pp_int (ppa_cons pp_int ppa_nil))) (ppa_cons (pp_tup (ppa_cons pp_int ppa_nil)) ppa_nil))) (ppa_cons (pp_tup (ppa_cons (pp_tup (ppa_cons pp_int (ppa_cons pp_int ppa_nil))) (ppa_cons (pp_tup (ppa_cons pp_int ppa_nil)) ppa_nil))) ppa_nil))) ppa_nil)) (ppk_cons pp_int ppk_nil)) (fun f fd F => kb_of F (ix := [1, 0]) (ks := ["facts", "n"]) (na := 0) fun _ _ _ _ _ _ _ us ws h1 h2 => match us, ws, h1, h2 with | [], [_, _], _, _ => .of_eq rfl) (alenS (alenS alen0))) (ppa_cons (pp_call (fm_some_order T) solid_some_order (hr.mono (by decide)) (takes_of rfl rfl rfl rfl) rfl (ppa_cons pp_int (ppa_cons (pp_tup ppa_nil) ppa_nil))) (ppa_cons (pp_call (fm_let_orders T) solid_let_orders (hr.mono (by decide)) (takes_of rfl rfl rfl rfl) rfl (ppa_cons pp_int (ppa_cons (pp_call (fm_let_lots T) solid_let_lots (hr.mono (by decide)) (takes_of rfl rfl rfl rfl) rfl (ppa_cons pp_int (ppa_cons (pp_pv 0) ppa_nil))) ppa_nil))) (ppa_cons (pp_callK0 (fm_let_orders T) solid_let_orders (hr.mono (by decide)) (takes_of rfl rfl rfl rfl) rfl (ppk_cons (PPN.pp (ppn_lst (ppa_cons (PPN.pp (ppn_lst ppa_nil)) (ppa_cons (PPN.pp (ppn_lst (ppa_cons pp_int (ppa_cons pp_int ppa_nil)))) ppa_nil)))) (ppk_cons pp_int ppk_nil)) (fun f fd F => kb_of F (ix := [1, 0]) (ks := ["family", "n"]) (na := 0) fun _ _ _ _ _ _ _ us ws h1 h2 => match us, ws, h1, h2 with | [], [_, _], _, _ => .of_eq rfl) (alenS (alenS alen0))) (ppa_cons (pp_call (fm_let_orders T) solid_let_orders (hr.mono (by decide)) (takes_of rfl rfl rfl rfl) rfl (ppa_cons pp_int (ppa_cons (pp_tup (ppa_cons (pp_tup ppa_nil) (ppa_cons (pp_tup (ppa_cons pp_int ppa_nil)) ppa_nil))) ppa_nil))) ppa_nil)))))))))
    (ppss_cons (pps_set (i := 5) sc__law_orders_right.nd rfl (by first | exact .inl rfl | exact .inr rfl) (PPN.pp (ppn_lst (ppa_cons (pp_tup (ppa_cons pp_int (ppa_cons pp_int (ppa_cons pp_int ppa_nil)))) (ppa_cons (pp_tup (ppa_cons pp_int (ppa_cons pp_int (ppa_cons pp_int ppa_nil)))) (ppa_cons (pp_tup (ppa_cons pp_int ppa_nil)) (ppa_cons (PPN.pp (ppn_lst (ppa_cons (pp_tup (ppa_cons pp_int (ppa_cons pp_int (ppa_cons pp_int ppa_nil)))) (ppa_cons (pp_tup (ppa_cons pp_int (ppa_cons pp_int (ppa_cons pp_int ppa_nil)))) (ppa_cons (pp_tup (ppa_cons pp_int (ppa_cons pp_int (ppa_cons pp_int ppa_nil)))) ppa_nil))))) (ppa_cons (PPN.pp (ppn_lst ppa_nil)) (ppa_cons (PPN.pp (ppn_lst (ppa_cons (pp_tup (ppa_cons pp_int ppa_nil)) ppa_nil))) ppa_nil)))))))))
    (ppss_cons (pps_set (i := 4) sc__law_orders_right.nd rfl (by first | exact .inl rfl | exact .inr rfl) (pp_op op_addP (pp_pv 4) (PPN.pp (ppn_lst (ppa_cons (pp_call (fm_reached_lots T) solid_reached_lots (hr.mono (by decide)) (takes_of rfl rfl rfl rfl) rfl (ppa_cons pp_int (ppa_cons (pp_tup (ppa_cons (pp_tup ppa_nil) (ppa_cons (pp_tup (ppa_cons pp_int ppa_nil)) (ppa_cons (pp_tup (ppa_cons pp_int ppa_nil)) (ppa_cons (pp_tup (ppa_cons pp_int (ppa_cons pp_int ppa_nil))) (ppa_cons (pp_tup (ppa_cons pp_int (ppa_cons pp_int (ppa_cons pp_int ppa_nil)))) ppa_nil)))))) ppa_nil))) (ppa_cons (pp_callK0 (fm_reached_lots T) solid_reached_lots (hr.mono (by decide)) (takes_of rfl rfl rfl rfl) rfl (ppk_cons (PPN.pp (ppn_lst (ppa_cons (PPN.pp (ppn_lst ppa_nil)) (ppa_cons (PPN.pp (ppn_lst (ppa_cons pp_int (ppa_cons pp_int ppa_nil)))) ppa_nil)))) (ppk_cons pp_int ppk_nil)) (fun f fd F => kb_of F (ix := [1, 0]) (ks := ["family", "n"]) (na := 0) fun _ _ _ _ _ _ _ us ws h1 h2 => match us, ws, h1, h2 with | [], [_, _], _, _ => .of_eq rfl) (alenS (alenS alen0))) (ppa_cons (pp_call (fm_reached_lots T) solid_reached_lots (hr.mono (by decide)) (takes_of rfl rfl rfl rfl) rfl (ppa_cons pp_int (ppa_cons (pp_call (fm_let_lots T) solid_let_lots (hr.mono (by decide)) (takes_of rfl rfl rfl rfl) rfl (ppa_cons pp_int (ppa_cons (pp_pv 0) ppa_nil))) ppa_nil))) (ppa_cons (pp_call (fm_family_met T) solid_family_met (hr.mono (by decide)) (takes_of rfl rfl rfl rfl) rfl (ppa_cons pp_int (ppa_cons (pp_call (fm_let_lots T) solid_let_lots (hr.mono (by decide)) (takes_of rfl rfl rfl rfl) rfl (ppa_cons pp_int (ppa_cons (pp_pv 0) ppa_nil))) (ppa_cons (pp_call (fm_line_family T) solid_line_family (hr.mono (by decide)) (takes_of rfl rfl rfl rfl) rfl (ppa_cons pp_int (ppa_cons (pp_tup (ppa_cons pp_int (ppa_cons pp_int (ppa_cons pp_int ppa_nil)))) ppa_nil))) ppa_nil)))) (ppa_cons (pp_callK0 (fm_family_met T) solid_family_met (hr.mono (by decide)) (takes_of rfl rfl rfl rfl) rfl (ppk_cons (PPN.pp (ppn_lst (ppa_cons (PPN.pp (ppn_lst ppa_nil)) (ppa_cons (PPN.pp (ppn_lst (ppa_cons pp_int (ppa_cons pp_int ppa_nil)))) ppa_nil)))) (ppk_cons (PPN.pp (ppn_lst (ppa_cons (PPN.pp (ppn_lst ppa_nil)) (ppa_cons (PPN.pp (ppn_lst (ppa_cons pp_int ppa_nil))) (ppa_cons (PPN.pp (ppn_lst (ppa_cons pp_int (ppa_cons pp_int ppa_nil)))) ppa_nil))))) (ppk_cons pp_int ppk_nil))) (fun f fd F => kb_of F (ix := [2, 1, 0]) (ks := ["other", "family", "n"]) (na := 0) fun _ _ _ _ _ _ _ us ws h1 h2 => match us, ws, h1, h2 with | [], [_, _, _], _, _ => .of_eq rfl) (alenS (alenS (alenS alen0)))) ppa_nil)))))))))
    (ppss_cons (pps_set (i := 5) sc__law_orders_right.nd rfl (by first | exact .inl rfl | exact .inr rfl) (pp_op op_addP (pp_pv 5) (PPN.pp (ppn_lst (ppa_cons (pp_tup (ppa_cons (pp_tup ppa_nil) (ppa_cons (pp_tup (ppa_cons pp_int ppa_nil)) (ppa_cons (pp_tup (ppa_cons pp_int (ppa_cons pp_int ppa_nil))) (ppa_cons (pp_tup (ppa_cons pp_int (ppa_cons pp_int (ppa_cons pp_int ppa_nil)))) ppa_nil))))) (ppa_cons (pp_tup ppa_nil) (ppa_cons (pp_tup (ppa_cons (pp_tup ppa_nil) (ppa_cons (pp_tup (ppa_cons pp_int ppa_nil)) (ppa_cons (pp_tup (ppa_cons pp_int ppa_nil)) (ppa_cons (pp_tup (ppa_cons pp_int (ppa_cons pp_int ppa_nil))) (ppa_cons (pp_tup (ppa_cons pp_int (ppa_cons pp_int ppa_nil))) (ppa_cons (pp_tup (ppa_cons pp_int (ppa_cons pp_int (ppa_cons pp_int ppa_nil)))) ppa_nil))))))) (ppa_cons (pp_tup (ppa_cons (pp_tup ppa_nil) (ppa_cons (pp_tup (ppa_cons pp_int ppa_nil)) (ppa_cons (pp_tup (ppa_cons pp_int ppa_nil)) (ppa_cons (pp_tup (ppa_cons pp_int (ppa_cons pp_int ppa_nil))) (ppa_cons (pp_tup (ppa_cons pp_int (ppa_cons pp_int (ppa_cons pp_int ppa_nil)))) ppa_nil)))))) (ppa_cons (pp_tup (ppa_cons (pp_tup ppa_nil) (ppa_cons (pp_tup (ppa_cons pp_int (ppa_cons pp_int ppa_nil))) ppa_nil))) ppa_nil)))))))))
    (ppss_cons (pps_set (i := 4) sc__law_orders_right.nd rfl (by first | exact .inl rfl | exact .inr rfl) (pp_op op_addP (pp_pv 4) (PPN.pp (ppn_lst (ppa_cons (pp_call (fm_line_family T) solid_line_family (hr.mono (by decide)) (takes_of rfl rfl rfl rfl) rfl (ppa_cons pp_int (ppa_cons (pp_tup (ppa_cons pp_int (ppa_cons pp_int (ppa_cons pp_int ppa_nil)))) ppa_nil))) (ppa_cons (pp_callK0 (fm_line_family T) solid_line_family (hr.mono (by decide)) (takes_of rfl rfl rfl rfl) rfl (ppk_cons (PPN.pp (ppn_lst (ppa_cons pp_int (ppa_cons pp_int (ppa_cons pp_int ppa_nil))))) (ppk_cons pp_int ppk_nil)) (fun f fd F => kb_of F (ix := [1, 0]) (ks := ["line", "n"]) (na := 0) fun _ _ _ _ _ _ _ us ws h1 h2 => match us, ws, h1, h2 with | [], [_, _], _, _ => .of_eq rfl) (alenS (alenS alen0))) (ppa_cons (pp_call (fm_line_family T) solid_line_family (hr.mono (by decide)) (takes_of rfl rfl rfl rfl) rfl (ppa_cons pp_int (ppa_cons (pp_tup (ppa_cons pp_int ppa_nil)) ppa_nil))) (ppa_cons (pp_call (fm_let_orders T) solid_let_orders (hr.mono (by decide)) (takes_of rfl rfl rfl rfl) rfl (ppa_cons pp_int (ppa_cons (pp_call (fm_line_family T) solid_line_family (hr.mono (by decide)) (takes_of rfl rfl rfl rfl) rfl (ppa_cons pp_int (ppa_cons (pp_tup (ppa_cons pp_int (ppa_cons pp_int (ppa_cons pp_int ppa_nil)))) ppa_nil))) ppa_nil))) (ppa_cons (pp_b1 call_lenP rfl T.z_len rfl (pp_call (fm_let_orders T) solid_let_orders (hr.mono (by decide)) (takes_of rfl rfl rfl rfl) rfl (ppa_cons pp_int (ppa_cons (pp_call (fm_line_family T) solid_line_family (hr.mono (by decide)) (takes_of rfl rfl rfl rfl) rfl (ppa_cons pp_int (ppa_cons (pp_tup (ppa_cons pp_int (ppa_cons pp_int (ppa_cons pp_int (ppa_cons pp_int ppa_nil))))) ppa_nil))) ppa_nil)))) ppa_nil)))))))))
    (ppss_cons (pps_set (i := 5) sc__law_orders_right.nd rfl (by first | exact .inl rfl | exact .inr rfl) (pp_op op_addP (pp_pv 5) (PPN.pp (ppn_lst (ppa_cons (pp_tup (ppa_cons (pp_tup ppa_nil) (ppa_cons (pp_tup (ppa_cons pp_int ppa_nil)) (ppa_cons (pp_tup (ppa_cons pp_int ppa_nil)) (ppa_cons (pp_tup (ppa_cons pp_int ppa_nil)) (ppa_cons (pp_tup (ppa_cons pp_int (ppa_cons pp_int ppa_nil))) (ppa_cons (pp_tup (ppa_cons pp_int (ppa_cons pp_int ppa_nil))) (ppa_cons (pp_tup (ppa_cons pp_int (ppa_cons pp_int (ppa_cons pp_int ppa_nil)))) ppa_nil)))))))) (ppa_cons (pp_tup (ppa_cons (pp_tup ppa_nil) (ppa_cons (pp_tup (ppa_cons pp_int ppa_nil)) (ppa_cons (pp_tup (ppa_cons pp_int ppa_nil)) (ppa_cons (pp_tup (ppa_cons pp_int ppa_nil)) (ppa_cons (pp_tup (ppa_cons pp_int (ppa_cons pp_int ppa_nil))) (ppa_cons (pp_tup (ppa_cons pp_int (ppa_cons pp_int ppa_nil))) (ppa_cons (pp_tup (ppa_cons pp_int (ppa_cons pp_int (ppa_cons pp_int ppa_nil)))) ppa_nil)))))))) (ppa_cons (pp_tup (ppa_cons (pp_tup ppa_nil) (ppa_cons (pp_tup (ppa_cons pp_int ppa_nil)) ppa_nil))) (ppa_cons (PPN.pp (ppn_lst (ppa_cons (pp_tup (ppa_cons pp_int (ppa_cons pp_int (ppa_cons pp_int ppa_nil)))) (ppa_cons (pp_tup (ppa_cons pp_int (ppa_cons pp_int (ppa_cons pp_int ppa_nil)))) (ppa_cons (pp_tup (ppa_cons pp_int (ppa_cons pp_int (ppa_cons pp_int ppa_nil)))) (ppa_cons (pp_tup (ppa_cons pp_int (ppa_cons pp_int (ppa_cons pp_int ppa_nil)))) ppa_nil)))))) (ppa_cons pp_int ppa_nil)))))))))
    (ppss_cons (pps_set (i := 6) sc__law_orders_right.nd rfl (by first | exact .inl rfl | exact .inr rfl) (PPN.pp (ppn_lst (ppa_cons (pp_tup (ppa_cons (pp_tup (ppa_cons pp_int (ppa_cons pp_int ppa_nil))) (ppa_cons (pp_tup (ppa_cons pp_int (ppa_cons pp_int ppa_nil))) (ppa_cons (pp_tup (ppa_cons pp_int (ppa_cons pp_int ppa_nil))) ppa_nil)))) (ppa_cons (pp_tup (ppa_cons (pp_tup (ppa_cons pp_int (ppa_cons pp_int ppa_nil))) (ppa_cons (pp_tup (ppa_cons pp_int (ppa_cons pp_int ppa_nil))) ppa_nil))) (ppa_cons (pp_tup (ppa_cons (pp_tup (ppa_cons pp_int (ppa_cons pp_int ppa_nil))) (ppa_cons (pp_tup (ppa_cons pp_int (ppa_cons pp_int ppa_nil))) (ppa_cons (pp_tup (ppa_cons pp_int (ppa_cons pp_int ppa_nil))) ppa_nil)))) (ppa_cons (pp_tup ppa_nil) (ppa_cons (pp_tup (ppa_cons (pp_tup (ppa_cons pp_int (ppa_cons pp_int ppa_nil))) (ppa_cons (pp_tup (ppa_cons pp_int (ppa_cons pp_int ppa_nil))) (ppa_cons (pp_tup (ppa_cons pp_int (ppa_cons pp_int ppa_nil))) ppa_nil)))) (ppa_cons (PPN.pp (ppn_lst (ppa_cons (pp_tup (ppa_cons pp_int (ppa_cons pp_int ppa_nil))) (ppa_cons (pp_tup (ppa_cons pp_int (ppa_cons pp_int ppa_nil))) (ppa_cons (pp_tup (ppa_cons pp_int (ppa_cons pp_int ppa_nil))) ppa_nil))))) (ppa_cons (pp_tup (ppa_cons (pp_tup (ppa_cons pp_int (ppa_cons pp_int ppa_nil))) (ppa_cons (pp_tup (ppa_cons pp_int (ppa_cons pp_int ppa_nil))) (ppa_cons (pp_tup (ppa_cons pp_int (ppa_cons pp_int ppa_nil))) ppa_nil)))) (ppa_cons (pp_tup (ppa_cons (pp_tup (ppa_cons pp_int (ppa_cons pp_int ppa_nil))) (ppa_cons (pp_tup (ppa_cons pp_int (ppa_cons pp_int ppa_nil))) (ppa_cons (pp_tup (ppa_cons pp_int (ppa_cons pp_int ppa_nil))) ppa_nil)))) (ppa_cons pp_non (ppa_cons (pp_tup (ppa_cons (pp_tup (ppa_cons pp_int (ppa_cons pp_int ppa_nil))) (ppa_cons (pp_tup (ppa_cons pp_int (ppa_cons pp_bl ppa_nil))) (ppa_cons (pp_tup (ppa_cons pp_int (ppa_cons pp_int ppa_nil))) ppa_nil)))) (ppa_cons (pp_tup (ppa_cons (pp_tup (ppa_cons pp_int (ppa_cons pp_int (ppa_cons pp_int ppa_nil)))) (ppa_cons (pp_tup (ppa_cons pp_int (ppa_cons pp_int ppa_nil))) (ppa_cons (pp_tup (ppa_cons pp_int (ppa_cons pp_int ppa_nil))) ppa_nil)))) ppa_nil))))))))))))))
    (ppss_cons (pps_set (i := 4) sc__law_orders_right.nd rfl (by first | exact .inl rfl | exact .inr rfl) (pp_op op_addP (pp_pv 4) (PPN.pp (ppn_lst (ppa_cons (PPN.pp (ppn_lcE (own := [("own", 7)]) rfl rfl (takes_of rfl rfl rfl rfl) rfl sc__law_orders_right.nd (ppi_seq (pp_pv 6)) (blk_of rfl (by rfl)) (fun _ _ _ _ _ _ => (ppgw_name (i := 7) sc__law_orders_right.nd rfl (by first | exact .inl rfl | exact .inr rfl) (by decide))) (fun _ _ _ _ _ _ _ tkB => ppts_nil) (fun _ _ _ _ _ _ _ tkB => (pp_call (fm_is_stuck_set T) solid_is_stuck_set (hr.mono (by decide)) tkB rfl (ppa_cons pp_int (ppa_cons (pp_pv 1) (ppa_cons (pp_pv 7) ppa_nil))))))) (ppa_cons (pp_call (fm_is_stuck_set T) solid_is_stuck_set (hr.mono (by decide)) (takes_of rfl rfl rfl rfl) rfl (ppa_cons pp_int (ppa_cons (pp_pv 3) (ppa_cons (pp_tup (ppa_cons (pp_tup (ppa_cons pp_int (ppa_cons pp_int ppa_nil))) ppa_nil)) ppa_nil)))) (ppa_cons (pp_call (fm_is_stuck_set T) solid_is_stuck_set (hr.mono (by decide)) (takes_of rfl rfl rfl rfl) rfl (ppa_cons pp_int (ppa_cons (pp_pv 3) (ppa_cons (pp_tup (ppa_cons (pp_tup (ppa_cons pp_int (ppa_cons pp_int ppa_nil))) (ppa_cons (pp_tup (ppa_cons pp_int (ppa_cons pp_int ppa_nil))) ppa_nil))) ppa_nil)))) (ppa_cons (pp_callK0 (fm_is_stuck_set T) solid_is_stuck_set (hr.mono (by decide)) (takes_of rfl rfl rfl rfl) rfl (ppk_cons (pp_ix (pp_pv 6) pp_int) (ppk_cons (pp_call (fm__law_lists T 14) (solid__law_lists 14) (hr.mono (by decide)) (takes_of rfl rfl rfl rfl) rfl (ppa_cons (pp_pv 1) ppa_nil)) (ppk_cons pp_int ppk_nil))) (fun f fd F => kb_of F (ix := [2, 1, 0]) (ks := ["thing", "facts", "n"]) (na := 0) fun _ _ _ _ _ _ _ us ws h1 h2 => match us, ws, h1, h2 with | [], [_, _, _], _, _ => .of_eq rfl) (alenS (alenS (alenS alen0)))) (ppa_cons (pp_call (fm_is_stuck_set T) solid_is_stuck_set (hr.mono (by decide)) (takes_of rfl rfl rfl rfl) rfl (ppa_cons pp_int (ppa_cons (pp_pv 1) (ppa_cons (pp_call (fm_stuck_set T) solid_stuck_set (hr.mono (by decide)) (takes_of rfl rfl rfl rfl) rfl (ppa_cons pp_int (ppa_cons (pp_call (fm__law_lists T 14) (solid__law_lists 14) (hr.mono (by decide)) (takes_of rfl rfl rfl rfl) rfl (ppa_cons (pp_pv 1) ppa_nil)) ppa_nil))) ppa_nil)))) (ppa_cons (pp_call (fm_is_stuck_set T) solid_is_stuck_set (hr.mono (by decide)) (takes_of rfl rfl rfl rfl) rfl (ppa_cons pp_int (ppa_cons (pp_pv 0) (ppa_cons (pp_tup (ppa_cons (pp_tup (ppa_cons pp_int (ppa_cons pp_int ppa_nil))) ppa_nil)) ppa_nil)))) (ppa_cons (pp_call (fm_is_stuck_set T) solid_is_stuck_set (hr.mono (by decide)) (takes_of rfl rfl rfl rfl) rfl (ppa_cons pp_int (ppa_cons (pp_tup (ppa_cons (pp_tup (ppa_cons (pp_tup (ppa_cons pp_int (ppa_cons pp_int ppa_nil))) (ppa_cons (pp_tup ppa_nil) ppa_nil))) ppa_nil)) (ppa_cons (pp_call (fm_stuck_set T) solid_stuck_set (hr.mono (by decide)) (takes_of rfl rfl rfl rfl) rfl (ppa_cons pp_int (ppa_cons (pp_tup (ppa_cons (pp_tup (ppa_cons (pp_tup (ppa_cons pp_int (ppa_cons pp_int ppa_nil))) (ppa_cons (pp_tup ppa_nil) ppa_nil))) ppa_nil)) ppa_nil))) ppa_nil)))) (ppa_cons (pp_call (fm_is_stuck_set T) solid_is_stuck_set (hr.mono (by decide)) (takes_of rfl rfl rfl rfl) rfl (ppa_cons pp_int (ppa_cons (pp_tup (ppa_cons (pp_tup (ppa_cons (pp_tup (ppa_cons pp_int (ppa_cons pp_int ppa_nil))) (ppa_cons (pp_tup ppa_nil) ppa_nil))) ppa_nil)) (ppa_cons (pp_tup (ppa_cons (pp_tup (ppa_cons pp_int (ppa_cons pp_int ppa_nil))) ppa_nil)) ppa_nil)))) ppa_nil))))))))))))
    (ppss_cons (pps_set (i := 5) sc__law_orders_right.nd rfl (by first | exact .inl rfl | exact .inr rfl) (pp_op op_addP (pp_pv 5) (PPN.pp (ppn_lst (ppa_cons (pp_op op_addP (PPN.pp (ppn_lst (ppa_cons pp_bl ppa_nil))) (pp_op op_mulP2 (PPN.pp (ppn_lst (ppa_cons pp_bl ppa_nil))) pp_int)) (ppa_cons pp_bl (ppa_cons pp_bl (ppa_cons pp_bl (ppa_cons pp_bl (ppa_cons pp_bl (ppa_cons pp_bl (ppa_cons pp_bl ppa_nil))))))))))))
    (ppss_one (pps_ret (pp_call (fm__law_same T 14) (solid__law_same 14) (hr.mono (by decide)) (takes_of rfl rfl rfl rfl) rfl (ppa_cons (pp_pv 4) (ppa_cons (pp_pv 5) ppa_nil)))))))))))))))
/-! picked_in -/
theorem sc_picked_in : FnScope ["n", "facts", "menu", "ahead", "good"] ["n", "facts", "menu"] (defScope (topS 53)) := ⟨rfl, rfl, rfl, by decide +kernel, rfl, by decide +kernel, by decide +kernel⟩
def b_picked_in : CS := (sSeq (sIf (tV (c2 ltD2 (c1 lenD (cCall m_laid_from (aC (cV 1) (aC (cTup aN) (aC (cCall m_all_goods (aC (cV 0) aN)) aN))))) (cV 0))) (sRet (cTup aN)) sNx)
    (sSeq (sSet 3 (cCall m_laid_from (aC (cV 1) (aC (cTup aN) (aC (cN (nLc (iA (cCall m_all_goods (aC (cV 0) aN))) [4] (gN 4) (tV (c2 notInD (cV 4) (cV 2))) (cV 4))) aN)))))
    (sRet (c1 tupleD (cN (nLcE (iA (cV 2)) [4] (gN 4) (tV (cCall m_lets (aC (cV 1) (aC (cTup (aS (cV 3) (aC (cV 4) aN))) aN)))) (cV 4)))))))
def m_picked_in : List D → Res D := cDef 3 2 b_picked_in
theorem solid_picked_in : Solid m_picked_in := solid_def _ _ _
theorem fm_picked_in (T : Tx0 ec0 ec1 K mg) : Fm P w K mg base (clsOf ec0 ec1) 3 "picked_in" (topS 53) ["n", "facts", "menu"] m_picked_in := by
  obtain ⟨f, fd, h1, h2, h3⟩ := T.f_picked_in
  exact fm_def (k := 2) h2 sc_picked_in h1 h3 rfl rfl fun cdv A outer s H E Fz hr => (ppss_cons (pps_if (ppt_cmp (op_ltP2 hr.units) (pp_b1 call_lenP rfl T.z_len rfl (pp_call (fm_laid_from T) solid_laid_from (hr.mono (by decide)) (takes_of rfl rfl rfl rfl) rfl (ppa_cons (pp_pv 1) (ppa_cons (pp_tup ppa_nil) (ppa_cons (pp_call (fm_all_goods T) solid_all_goods (hr.mono (by decide)) (takes_of rfl rfl rfl rfl) rfl (ppa_cons (pp_pv 0) ppa_nil)) ppa_nil))))) (pp_pv 0) (nomark _)) (ppss_one (pps_ret (pp_tup ppa_nil))) ppss_nil)
    (ppss_cons (pps_set (i := 3) sc_picked_in.nd rfl (by first | exact .inl rfl | exact .inr rfl) (pp_call (fm_laid_from T) solid_laid_from (hr.mono (by decide)) (takes_of rfl rfl rfl rfl) rfl (ppa_cons (pp_pv 1) (ppa_cons (pp_tup ppa_nil) (ppa_cons (PPN.pp (ppn_lc (own := [("good", 4)]) rfl sc_picked_in.nd (ppi_seq (pp_call (fm_all_goods T) solid_all_goods (hr.mono (by decide)) (takes_of rfl rfl rfl rfl) rfl (ppa_cons (pp_pv 0) ppa_nil))) (blk_of rfl (by rfl)) (fun _ _ _ _ _ => (ppgw_name (i := 4) sc_picked_in.nd rfl (by first | exact .inl rfl | exact .inr rfl) (by decide))) (fun _ _ _ _ _ => (ppts_one (ppt_cmp (op_notInP hr.units) (pp_pv 4) (pp_pv 2) (by rfl)))) (fun _ _ _ _ _ => (pp_pv 4)))) ppa_nil)))))
    (ppss_one (pps_ret (pp_ty1 call_tupleP rfl T.z_tuple rfl (PPN.pp (ppn_lcE (own := [("good", 4)]) rfl rfl (takes_of rfl rfl rfl rfl) rfl sc_picked_in.nd (ppi_seq (pp_pv 2)) (blk_of rfl (by rfl)) (fun _ _ _ _ _ _ => (ppgw_name (i := 4) sc_picked_in.nd rfl (by first | exact .inl rfl | exact .inr rfl) (by decide))) (fun _ _ _ _ _ _ _ tkB => (ppts_one (ppt_val (pp_call (fm_lets T) solid_lets (hr.mono (by decide)) tkB rfl (ppa_cons (pp_pv 1) (ppa_cons (pp_tup (ppa_star (pp_pv 3) (ppa_cons (pp_pv 4) ppa_nil))) ppa_nil)))))) (fun _ _ _ _ _ _ _ tkB => (pp_pv 4)))))))))
/-! breaking_order -/
theorem sc_breaking_order : FnScope ["n", "facts", "fact", "own", "told", "goods", "ahead", "row", "good"] ["n", "facts", "fact"] (defScope (topS 56)) := ⟨rfl, rfl, rfl, by decide +kernel, rfl, by decide +kernel, by decide +kernel⟩
def b_breaking_order : CS := (sSeq (sAsg (gT (gsC (gN 3) (gsC (gN 4) gsN))) (cTup (aC (cCall m_sure_facts (aC (cV 0) (aC (cV 1) aN))) (aC (cCall (m_tupled 14) (aC (cV 2) aN)) aN))))
    (sSeq (sIf (tNot (tV (cCall m_is_fact (aC (cV 0) (aC (cV 4) aN))))) (sRaise 0) sNx)
    (sSeq (fun e => inE 5 e (sSetN 5 (nLc (iA (cCall m_picked_in (aC (cV 0) (aC (cV 3) (aC (c2 ixD (cV 4) (cC (.int 0))) aN))))) [8] (gN 8) (tV (c2 notInD (cV 8) (c2 ixD (cV 4) (cC (.int 1))))) (cV 8)) e))
    (sFz 5 (sSeq (sIf (tV (c2 eqD (cV 5) (cN (nLst aN)))) (sRaise 1) sNx)
    (sSeq (sSet 6 (cCall m_laid_from (aC (cV 3) (aC (cTup aN) (aC (cN (nLc (iA (cCall m_all_goods (aC (cV 0) aN))) [8] (gN 8) (tV (c2 notInD (cV 8) (c2 ixD (cV 4) (cC (.int 0))))) (cV 8))) aN)))))
    (sSeq (sSet 7 (cTup (aS (cV 6) (aC (c2 ixD (cV 5) (cC (.int 0))) aN))))
    (sRet (cCall m_laid_from (aC (cV 3) (aC (cV 7) (aC (cN (nLc (iA (cCall m_all_goods (aC (cV 0) aN))) [8] (gN 8) (tV (c2 notInD (cV 8) (cV 7))) (cV 8))) aN))))))))))))
def m_breaking_order : List D → Res D := cDef 3 6 b_breaking_order
theorem solid_breaking_order : Solid m_breaking_order := solid_def _ _ _
theorem fm_breaking_order (T : Tx0 ec0 ec1 K mg) : Fm P w K mg base (clsOf ec0 ec1) 16 "breaking_order" (topS 56) ["n", "facts", "fact"] m_breaking_order := by
  obtain ⟨f, fd, h1, h2, h3⟩ := T.f_breaking_order
  exact fm_def (k := 15) h2 sc_breaking_order h1 h3 rfl rfl fun cdv A outer s H E Fz hr => (ppss_cons (pps_asg (pp_tup (ppa_cons (pp_call (fm_sure_facts T) solid_sure_facts (hr.mono (by decide)) (takes_of rfl rfl rfl rfl) rfl (ppa_cons (pp_pv 0) (ppa_cons (pp_pv 1) ppa_nil))) (ppa_cons (pp_call (fm_tupled T 14) (solid_tupled 14) (hr.mono (by decide)) (takes_of rfl rfl rfl rfl) rfl (ppa_cons (pp_pv 2) ppa_nil)) ppa_nil))) (ppg_tup rfl (ppgs_cons (ppg_name (i := 3) sc_breaking_order.nd rfl (by first | exact .inl rfl | exact .inr rfl)) (ppgs_cons (ppg_name (i := 4) sc_breaking_order.nd rfl (by first | exact .inl rfl | exact .inr rfl)) ppgs_nil))))
    (ppss_cons (pps_if (ppt_not (ppt_val (pp_call (fm_is_fact T) solid_is_fact (hr.mono (by decide)) (takes_of rfl rfl rfl rfl) rfl (ppa_cons (pp_pv 0) (ppa_cons (pp_pv 4) ppa_nil))))) (ppss_one (pps_raise (c := 0) rfl (takes_of rfl rfl rfl rfl) (pmk_own0 PySem.F.excBase_ValueError T.o_Unfit.x T.o_Unfit.g T.o_Unfit.k (raises_own T.o_Unfit.b T.o_Unfit.t) rfl))) ppss_nil)
    (ppss_cons (pps_setLcN (i := 5) (own := [("good", 8)]) rfl sc_breaking_order.nd rfl rfl (sw_true rfl rfl rfl rfl) (ppi_seq (pp_call (fm_picked_in T) solid_picked_in (hr.mono (by decide)) (takes_of rfl rfl rfl rfl) rfl (ppa_cons (pp_pv 0) (ppa_cons (pp_pv 3) (ppa_cons (pp_ix (pp_pv 4) pp_int) ppa_nil))))) (blk_of rfl (by rfl)) (fun _ _ _ _ _ => (ppgw_name (i := 8) sc_breaking_order.nd rfl (by first | exact .inl rfl | exact .inr rfl) (by decide))) (fun _ _ _ _ _ => (ppts_one (ppt_cmp (op_notInP hr.units) (pp_pv 8) (pp_ix (pp_pv 4) pp_int) (by rfl)))) (fun _ _ _ _ _ => (pp_pv 8)))
    (ppss_fz 5 (ppss_cons (pps_if (ppt_cmp (op_eqP hr.units) (pp_pv 5) (PPN.pp (ppn_lst ppa_nil)) (nomark _)) (ppss_one (pps_raise (c := 1) rfl (takes_of rfl rfl rfl rfl) (pmk_own0 PySem.F.excBase_ValueError T.o_NoPaper.x T.o_NoPaper.g T.o_NoPaper.k (raises_own T.o_NoPaper.b T.o_NoPaper.t) rfl))) ppss_nil)
    (ppss_cons (pps_set (i := 6) sc_breaking_order.nd rfl (by first | exact .inl rfl | exact .inr rfl) (pp_call (fm_laid_from T) solid_laid_from (hr.mono (by decide)) (takes_of rfl rfl rfl rfl) rfl (ppa_cons (pp_pv 3) (ppa_cons (pp_tup ppa_nil) (ppa_cons (PPN.pp (ppn_lc (own := [("good", 8)]) rfl sc_breaking_order.nd (ppi_seq (pp_call (fm_all_goods T) solid_all_goods (hr.mono (by decide)) (takes_of rfl rfl rfl rfl) rfl (ppa_cons (pp_pv 0) ppa_nil))) (blk_of rfl (by rfl)) (fun _ _ _ _ _ => (ppgw_name (i := 8) sc_breaking_order.nd rfl (by first | exact .inl rfl | exact .inr rfl) (by decide))) (fun _ _ _ _ _ => (ppts_one (ppt_cmp (op_notInP hr.units) (pp_pv 8) (pp_ix (pp_pv 4) pp_int) (by rfl)))) (fun _ _ _ _ _ => (pp_pv 8)))) ppa_nil)))))
    (ppss_cons (pps_set (i := 7) sc_breaking_order.nd rfl (by first | exact .inl rfl | exact .inr rfl) (pp_tup (ppa_star (pp_pv 6) (ppa_cons (pp_ix (pp_pv 5) pp_int) ppa_nil))))
    (ppss_one (pps_ret (pp_call (fm_laid_from T) solid_laid_from (hr.mono (by decide)) (takes_of rfl rfl rfl rfl) rfl (ppa_cons (pp_pv 3) (ppa_cons (pp_pv 7) (ppa_cons (PPN.pp (ppn_lc (own := [("good", 8)]) rfl sc_breaking_order.nd (ppi_seq (pp_call (fm_all_goods T) solid_all_goods (hr.mono (by decide)) (takes_of rfl rfl rfl rfl) rfl (ppa_cons (pp_pv 0) ppa_nil))) (blk_of rfl (by rfl)) (fun _ _ _ _ _ => (ppgw_name (i := 8) sc_breaking_order.nd rfl (by first | exact .inl rfl | exact .inr rfl) (by decide))) (fun _ _ _ _ _ => (ppts_one (ppt_cmp (op_notInP hr.units) (pp_pv 8) (pp_pv 7) (by rfl)))) (fun _ _ _ _ _ => (pp_pv 8)))) ppa_nil)))))))))))))
/-! can_be_picked -/
theorem sc_can_be_picked : FnScope ["n", "facts", "menu", "own", "told"] ["n", "facts", "menu"] (defScope (topS 54)) := ⟨rfl, rfl, rfl, by decide +kernel, rfl, by decide +kernel, by decide +kernel⟩
def b_can_be_picked : CS := (sSeq (sPar 3 4 (aC (cCall m_sure_facts (aC (cV 0) (aC (cV 1) aN))) (aC (cCall (m_tupled 14) (aC (cV 2) aN)) aN)))
    (sSeq (sIf (tNot (tV (cCall m_is_menu (aC (cV 0) (aC (cV 4) aN))))) (sRaise 0) sNx)
    (sRet (cCall m_picked_in (aC (cV 0) (aC (cV 3) (aC (cV 4) aN)))))))
def m_can_be_picked : List D → Res D := cDef 3 2 b_can_be_picked
theorem solid_can_be_picked : Solid m_can_be_picked := solid_def _ _ _
theorem fm_can_be_picked (T : Tx0 ec0 ec1 K mg) : Fm P w K mg base (clsOf ec0 ec1) 16 "can_be_picked" (topS 54) ["n", "facts", "menu"] m_can_be_picked := by
  obtain ⟨f, fd, h1, h2, h3⟩ := T.f_can_be_picked
  exact fm_def (k := 15) h2 sc_can_be_picked h1 h3 rfl rfl fun cdv A outer s H E Fz hr => (ppss_cons (pps_par (i := 3) (j := 4) rfl sc_can_be_picked.nd rfl rfl (by decide) rfl rfl (ppa_cons (pp_call (fm_sure_facts T) solid_sure_facts (hr.mono (by decide)) (takes_of rfl rfl rfl rfl) rfl (ppa_cons (pp_pv 0) (ppa_cons (pp_pv 1) ppa_nil))) (ppa_cons (pp_call (fm_tupled T 14) (solid_tupled 14) (hr.mono (by decide)) (takes_of rfl rfl rfl rfl) rfl (ppa_cons (pp_pv 2) ppa_nil)) ppa_nil)) (by rfl))
    (ppss_cons (pps_if (ppt_not (ppt_val (pp_call (fm_is_menu T) solid_is_menu (hr.mono (by decide)) (takes_of rfl rfl rfl rfl) rfl (ppa_cons (pp_pv 0) (ppa_cons (pp_pv 4) ppa_nil))))) (ppss_one (pps_raise (c := 0) rfl (takes_of rfl rfl rfl rfl) (pmk_own0 PySem.F.excBase_ValueError T.o_Unfit.x T.o_Unfit.g T.o_Unfit.k (raises_own T.o_Unfit.b T.o_Unfit.t) rfl))) ppss_nil)
    (ppss_one (pps_ret (pp_call (fm_picked_in T) solid_picked_in (hr.mono (by decide)) (takes_of rfl rfl rfl rfl) rfl (ppa_cons (pp_pv 0) (ppa_cons (pp_pv 3) (ppa_cons (pp_pv 4) ppa_nil))))))))
/-! fact_follows -/
theorem sc_fact_follows : FnScope ["n", "facts", "fact", "own", "told"] ["n", "facts", "fact"] (defScope (topS 55)) := ⟨rfl, rfl, rfl, by decide +kernel, rfl, by decide +kernel, by decide +kernel⟩
def b_fact_follows : CS := (sSeq (sPar 3 4 (aC (cCall m_sure_facts (aC (cV 0) (aC (cV 1) aN))) (aC (cCall (m_tupled 14) (aC (cV 2) aN)) aN)))
    (sSeq (sIf (tNot (tV (cCall m_is_fact (aC (cV 0) (aC (cV 4) aN))))) (sRaise 0) sNx)
    (sRet (cCall m_is_part (aC (cCall m_picked_in (aC (cV 0) (aC (cV 3) (aC (c2 ixD (cV 4) (cC (.int 0))) aN)))) (aC (c2 ixD (cV 4) (cC (.int 1))) aN))))))
def m_fact_follows : List D → Res D := cDef 3 2 b_fact_follows
theorem solid_fact_follows : Solid m_fact_follows := solid_def _ _ _
theorem fm_fact_follows (T : Tx0 ec0 ec1 K mg) : Fm P w K mg base (clsOf ec0 ec1) 16 "fact_follows" (topS 55) ["n", "facts", "fact"] m_fact_follows := by
  obtain ⟨f, fd, h1, h2, h3⟩ := T.f_fact_follows
  exact fm_def (k := 15) h2 sc_fact_follows h1 h3 rfl rfl fun cdv A outer s H E Fz hr => (ppss_cons (pps_par (i := 3) (j := 4) rfl sc_fact_follows.nd rfl rfl (by decide) rfl rfl (ppa_cons (pp_call (fm_sure_facts T) solid_sure_facts (hr.mono (by decide)) (takes_of rfl rfl rfl rfl) rfl (ppa_cons (pp_pv 0) (ppa_cons (pp_pv 1) ppa_nil))) (ppa_cons (pp_call (fm_tupled T 14) (solid_tupled 14) (hr.mono (by decide)) (takes_of rfl rfl rfl rfl) rfl (ppa_cons (pp_pv 2) ppa_nil)) ppa_nil)) (by rfl))
    (ppss_cons (pps_if (ppt_not (ppt_val (pp_call (fm_is_fact T) solid_is_fact (hr.mono (by decide)) (takes_of rfl rfl rfl rfl) rfl (ppa_cons (pp_pv 0) (ppa_cons (pp_pv 4) ppa_nil))))) (ppss_one (pps_raise (c := 0) rfl (takes_of rfl rfl rfl rfl) (pmk_own0 PySem.F.excBase_ValueError T.o_Unfit.x T.o_Unfit.g T.o_Unfit.k (raises_own T.o_Unfit.b T.o_Unfit.t) rfl))) ppss_nil)
    (ppss_one (pps_ret (pp_call (fm_is_part T) solid_is_part (hr.mono (by decide)) (takes_of rfl rfl rfl rfl) rfl (ppa_cons (pp_call (fm_picked_in T) solid_picked_in (hr.mono (by decide)) (takes_of rfl rfl rfl rfl) rfl (ppa_cons (pp_pv 0) (ppa_cons (pp_pv 3) (ppa_cons (pp_ix (pp_pv 4) pp_int) ppa_nil)))) (ppa_cons (pp_ix (pp_pv 4) pp_int) ppa_nil)))))))
/-! told_order -/
theorem sc_told_order : FnScope ["order", "own"] ["order"] (defScope (topS 22)) := ⟨rfl, rfl, rfl, by decide +kernel, rfl, by decide +kernel, by decide +kernel⟩
def b_told_order : CS := (sSeq (sSet 1 (cCall (m_tupled 14) (aC (cV 0) aN)))
    (sSeq (sIf (tOr (tNot (tV (c1 (isiD .tuple) (cV 1)))) (tOr (tV (c2 eqD (cV 1) (cTup aN))) (tNot (tV (cCall m_is_order (aC (c1 lenD (cV 1)) (aC (cV 1) aN))))))) (sRaise 0) sNx)
    (sRet (cV 1))))
def m_told_order : List D → Res D := cDef 1 1 b_told_order
theorem solid_told_order : Solid m_told_order := solid_def _ _ _
theorem fm_told_order (T : Tx0 ec0 ec1 K mg) : Fm P w K mg base (clsOf ec0 ec1) 15 "told_order" (topS 22) ["order"] m_told_order := by
  obtain ⟨f, fd, h1, h2, h3⟩ := T.f_told_order
  exact fm_def (k := 14) h2 sc_told_order h1 h3 rfl rfl fun cdv A outer s H E Fz hr => (ppss_cons (pps_set (i := 1) sc_told_order.nd rfl (by first | exact .inl rfl | exact .inr rfl) (pp_call (fm_tupled T 14) (solid_tupled 14) (hr.mono (by decide)) (takes_of rfl rfl rfl rfl) rfl (ppa_cons (pp_pv 0) ppa_nil)))
    (ppss_cons (pps_if (PPW.pt (ppw_or (ppt_not (ppt_val (pp_isi (t := .tuple) rfl T.z_isinstance rfl T.z_tuple rfl (pp_pv 1)))) (ppw_or (ppt_cmp (op_eqP hr.units) (pp_pv 1) (pp_tup ppa_nil) (nomark _)) (ppw_or1 (ppt_not (ppt_val (pp_call (fm_is_order T) solid_is_order (hr.mono (by decide)) (takes_of rfl rfl rfl rfl) rfl (ppa_cons (pp_b1 call_lenP rfl T.z_len rfl (pp_pv 1)) (ppa_cons (pp_pv 1) ppa_nil))))))))) (ppss_one (pps_raise (c := 0) rfl (takes_of rfl rfl rfl rfl) (pmk_own0 PySem.F.excBase_ValueError T.o_Unfit.x T.o_Unfit.g T.o_Unfit.k (raises_own T.o_Unfit.b T.o_Unfit.t) rfl))) ppss_nil)
    (ppss_one (pps_ret (pp_pv 1)))))
/-! best_of -/
theorem sc_best_of : FnScope ["order", "menu", "own", "told", "good"] ["order", "menu"] (defScope (topS 23)) := ⟨rfl, rfl, rfl, by decide +kernel, rfl, by decide +kernel, by decide +kernel⟩
def b_best_of : CS := (sSeq (sAsg (gT (gsC (gN 2) (gsC (gN 3) gsN))) (cTup (aC (cCall m_told_order (aC (cV 0) aN)) (aC (cCall (m_tupled 14) (aC (cV 1) aN)) aN))))
    (sSeq (sIf (tNot (tV (cCall m_is_menu (aC (c1 lenD (cV 2)) (aC (cV 3) aN))))) (sRaise 0) sNx)
    (sRet (c2 ixD (cN (nLc (iA (cV 2)) [4] (gN 4) (tV (c2 inD (cV 4) (cV 3))) (cV 4))) (cC (.int 0))))))
def m_best_of : List D → Res D := cDef 2 3 b_best_of
theorem solid_best_of : Solid m_best_of := solid_def _ _ _
theorem fm_best_of (T : Tx0 ec0 ec1 K mg) : Fm P w K mg base (clsOf ec0 ec1) 16 "best_of" (topS 23) ["order", "menu"] m_best_of := by
  obtain ⟨f, fd, h1, h2, h3⟩ := T.f_best_of
  exact fm_def (k := 15) h2 sc_best_of h1 h3 rfl rfl fun cdv A outer s H E Fz hr => (ppss_cons (pps_asg (pp_tup (ppa_cons (pp_call (fm_told_order T) solid_told_order (hr.mono (by decide)) (takes_of rfl rfl rfl rfl) rfl (ppa_cons (pp_pv 0) ppa_nil)) (ppa_cons (pp_call (fm_tupled T 14) (solid_tupled 14) (hr.mono (by decide)) (takes_of rfl rfl rfl rfl) rfl (ppa_cons (pp_pv 1) ppa_nil)) ppa_nil))) (ppg_tup rfl (ppgs_cons (ppg_name (i := 2) sc_best_of.nd rfl (by first | exact .inl rfl | exact .inr rfl)) (ppgs_cons (ppg_name (i := 3) sc_best_of.nd rfl (by first | exact .inl rfl | exact .inr rfl)) ppgs_nil))))
    (ppss_cons (pps_if (ppt_not (ppt_val (pp_call (fm_is_menu T) solid_is_menu (hr.mono (by decide)) (takes_of rfl rfl rfl rfl) rfl (ppa_cons (pp_b1 call_lenP rfl T.z_len rfl (pp_pv 2)) (ppa_cons (pp_pv 3) ppa_nil))))) (ppss_one (pps_raise (c := 0) rfl (takes_of rfl rfl rfl rfl) (pmk_own0 PySem.F.excBase_ValueError T.o_Unfit.x T.o_Unfit.g T.o_Unfit.k (raises_own T.o_Unfit.b T.o_Unfit.t) rfl))) ppss_nil)
    (ppss_one (pps_ret (pp_ix (PPN.pp (ppn_lc (own := [("good", 4)]) rfl sc_best_of.nd (ppi_seq (pp_pv 2)) (blk_of rfl (by rfl)) (fun _ _ _ _ _ => (ppgw_name (i := 4) sc_best_of.nd rfl (by first | exact .inl rfl | exact .inr rfl) (by decide))) (fun _ _ _ _ _ => (ppts_one (ppt_cmp (op_inP hr.units) (pp_pv 4) (pp_pv 3) (by rfl)))) (fun _ _ _ _ _ => (pp_pv 4)))) pp_int)))))
/-! picks_all -/
theorem sc_picks_all : FnScope ["facts", "order", "menu", "some"] ["facts", "order"] (defScope (topS 38)) := ⟨rfl, rfl, rfl, by decide +kernel, rfl, by decide +kernel, by decide +kernel⟩
def b_picks_all : CS := (sRet (c1 allD (cN (nLcE (iA (cV 0)) [2, 3] (gT (gsC (gN 2) (gsC (gN 3) gsN))) tYesC (c2 inD (cCall m_best_of (aC (cV 1) (aC (cV 2) aN))) (cV 3))))))
def m_picks_all : List D → Res D := cDef 2 2 b_picks_all
theorem solid_picks_all : Solid m_picks_all := solid_def _ _ _
theorem fm_picks_all (T : Tx0 ec0 ec1 K mg) : Fm P w K mg base (clsOf ec0 ec1) 17 "picks_all" (topS 38) ["facts", "order"] m_picks_all := by
  obtain ⟨f, fd, h1, h2, h3⟩ := T.f_picks_all
  exact fm_def (k := 16) h2 sc_picks_all h1 h3 rfl rfl fun cdv A outer s H E Fz hr => (ppss_one (pps_ret (pp_b1 (call_allP rfl) rfl T.z_all rfl (PPN.pp (ppn_lcE (own := [("menu", 2), ("some", 3)]) rfl rfl (takes_of rfl rfl rfl rfl) rfl sc_picks_all.nd (ppi_seq (pp_pv 0)) (blk_of rfl (by rfl)) (fun _ _ _ _ _ _ => (ppgw_tup rfl (ppgws_cons (ppgw_name (i := 2) sc_picks_all.nd rfl (by first | exact .inl rfl | exact .inr rfl) (by decide)) (ppgws_cons (ppgw_name (i := 3) sc_picks_all.nd rfl (by first | exact .inl rfl | exact .inr rfl) (by decide)) ppgws_nil)))) (fun _ _ _ _ _ _ _ tkB => ppts_nil) (fun _ _ _ _ _ _ _ tkB => (pp_cmp (op_inP hr.units) (pp_call (fm_best_of T) solid_best_of (hr.mono (by decide)) tkB rfl (ppa_cons (pp_pv 1) (ppa_cons (pp_pv 2) ppa_nil))) (pp_pv 3) (by rfl))))))))
/-! is_breaking_order -/
theorem sc_is_breaking_order : FnScope ["n", "facts", "fact", "thing", "own", "told"] ["n", "facts", "fact", "thing"] (defScope (topS 57)) := ⟨rfl, rfl, rfl, by decide +kernel, rfl, by decide +kernel, by decide +kernel⟩
def b_is_breaking_order : CS := (sSeq (sPar 4 5 (aC (cCall m_sure_facts (aC (cV 0) (aC (cV 1) aN))) (aC (cCall (m_tupled 14) (aC (cV 2) aN)) aN)))
    (sSeq (sIf (tNot (tV (cCall m_is_fact (aC (cV 0) (aC (cV 5) aN))))) (sRaise 0) sNx)
    (sRet (cAnd (cCall m_is_order (aC (cV 0) (aC (cV 3) aN))) (cAnd (cCall m_picks_all (aC (cV 4) (aC (cV 3) aN))) (c2 notInD (cCall m_best_of (aC (cV 3) (aC (c2 ixD (cV 5) (cC (.int 0))) aN))) (c2 ixD (cV 5) (cC (.int 1)))))))))
def m_is_breaking_order : List D → Res D := cDef 4 2 b_is_breaking_order
theorem solid_is_breaking_order : Solid m_is_breaking_order := solid_def _ _ _
theorem fm_is_breaking_order (T : Tx0 ec0 ec1 K mg) : Fm P w K mg base (clsOf ec0 ec1) 18 "is_breaking_order" (topS 57) ["n", "facts", "fact", "thing"] m_is_breaking_order := by
  obtain ⟨f, fd, h1, h2, h3⟩ := T.f_is_breaking_order
  exact fm_def (k := 17) h2 sc_is_breaking_order h1 h3 rfl rfl fun cdv A outer s H E Fz hr => (ppss_cons (pps_par (i := 4) (j := 5) rfl sc_is_breaking_order.nd rfl rfl (by decide) rfl rfl (ppa_cons (pp_call (fm_sure_facts T) solid_sure_facts (hr.mono (by decide)) (takes_of rfl rfl rfl rfl) rfl (ppa_cons (pp_pv 0) (ppa_cons (pp_pv 1) ppa_nil))) (ppa_cons (pp_call (fm_tupled T 14) (solid_tupled 14) (hr.mono (by decide)) (takes_of rfl rfl rfl rfl) rfl (ppa_cons (pp_pv 2) ppa_nil)) ppa_nil)) (by rfl))
    (ppss_cons (pps_if (ppt_not (ppt_val (pp_call (fm_is_fact T) solid_is_fact (hr.mono (by decide)) (takes_of rfl rfl rfl rfl) rfl (ppa_cons (pp_pv 0) (ppa_cons (pp_pv 5) ppa_nil))))) (ppss_one (pps_raise (c := 0) rfl (takes_of rfl rfl rfl rfl) (pmk_own0 PySem.F.excBase_ValueError T.o_Unfit.x T.o_Unfit.g T.o_Unfit.k (raises_own T.o_Unfit.b T.o_Unfit.t) rfl))) ppss_nil)
    (ppss_one (pps_ret (pp_and (pp_call (fm_is_order T) solid_is_order (hr.mono (by decide)) (takes_of rfl rfl rfl rfl) rfl (ppa_cons (pp_pv 0) (ppa_cons (pp_pv 3) ppa_nil))) (pp_and (pp_call (fm_picks_all T) solid_picks_all (hr.mono (by decide)) (takes_of rfl rfl rfl rfl) rfl (ppa_cons (pp_pv 4) (ppa_cons (pp_pv 3) ppa_nil))) (pp_one (pp_cmp (op_notInP hr.units) (pp_call (fm_best_of T) solid_best_of (hr.mono (by decide)) (takes_of rfl rfl rfl rfl) rfl (ppa_cons (pp_pv 3) (ppa_cons (pp_ix (pp_pv 5) pp_int) ppa_nil))) (pp_ix (pp_pv 5) pp_int) (by rfl)))))))))
/-! needless_told_facts -/
theorem sc_needless_told_facts : FnScope ["n", "facts", "own", "found", "number", "fact"] ["n", "facts"] (defScope (topS 58)) := ⟨rfl, rfl, rfl, by decide +kernel, rfl, by decide +kernel, by decide +kernel⟩
def b_needless_told_facts : CS := (sSeq (sSet 2 (cCall m_sure_facts (aC (cV 0) (aC (cV 1) aN))))
    (sSeq (fun e => inE 3 e (sSetN 3 (nLst aN) e))
    (sSeq (sFor (iR enumD (aC (cV 2) aN)) (gT (gsC (gN 4) (gsC (gN 5) gsN))) (sIf (tV (cCall m_is_part (aC (cCall m_picked_in (aC (cV 0) (aC (c2 addD (cSl (cV 2) oN (oS (cV 4))) (cSl (cV 2) (oS (c2 addD (cV 4) (cC (.int 1)))) oN)) (aC (c2 ixD (cV 5) (cC (.int 0))) aN)))) (aC (c2 ixD (cV 5) (cC (.int 1))) aN)))) (sApp 3 (cV 4)) sNx))
    (sFz 3 (sRet (c1 tupleD (cV 3)))))))
def m_needless_told_facts : List D → Res D := cDef 2 4 b_needless_told_facts
theorem solid_needless_told_facts : Solid m_needless_told_facts := solid_def _ _ _
theorem fm_needless_told_facts (T : Tx0 ec0 ec1 K mg) : Fm P w K mg base (clsOf ec0 ec1) 16 "needless_told_facts" (topS 58) ["n", "facts"] m_needless_told_facts := by
  obtain ⟨f, fd, h1, h2, h3⟩ := T.f_needless_told_facts
  exact fm_def (k := 15) h2 sc_needless_told_facts h1 h3 rfl rfl fun cdv A outer s H E Fz hr => (ppss_cons (pps_set (i := 2) sc_needless_told_facts.nd rfl (by first | exact .inl rfl | exact .inr rfl) (pp_call (fm_sure_facts T) solid_sure_facts (hr.mono (by decide)) (takes_of rfl rfl rfl rfl) rfl (ppa_cons (pp_pv 0) (ppa_cons (pp_pv 1) ppa_nil))))
    (ppss_cons (pps_setN (i := 3) sc_needless_told_facts.nd rfl (by first | exact .inl rfl | exact .inr rfl) (ppn_lst ppa_nil))
    (ppss_cons (pps_for (passes_of rfl) rfl (ppi_enum rfl T.z_enumerate (ppa_cons (pp_pv 2) ppa_nil)) (ppg_tup rfl (ppgs_cons (ppg_name (i := 4) sc_needless_told_facts.nd rfl (by first | exact .inl rfl | exact .inr rfl)) (ppgs_cons (ppg_name (i := 5) sc_needless_told_facts.nd rfl (by first | exact .inl rfl | exact .inr rfl)) ppgs_nil))) (ppss_one (pps_if (ppt_val (pp_call (fm_is_part T) solid_is_part (hr.mono (by decide)) (takes_of rfl rfl rfl rfl) rfl (ppa_cons (pp_call (fm_picked_in T) solid_picked_in (hr.mono (by decide)) (takes_of rfl rfl rfl rfl) rfl (ppa_cons (pp_pv 0) (ppa_cons (pp_op op_addP (pp_slice (pp_pv 2) ppo_none (ppo_some (pp_pv 4))) (pp_slice (pp_pv 2) (ppo_some (pp_op op_addP (pp_pv 4) pp_int)) ppo_none)) (ppa_cons (pp_ix (pp_pv 5) pp_int) ppa_nil)))) (ppa_cons (pp_ix (pp_pv 5) pp_int) ppa_nil)))) (ppss_one (pps_app (i := 3) rfl (pp_pv 4))) ppss_nil)))
    (ppss_fz 3 (ppss_one (pps_ret (pp_ty1 call_tupleP rfl T.z_tuple rfl (pp_pv 3))))))))
/-! _law_picked_right -/
theorem sc__law_picked_right : FnScope ["first", "ring", "blank", "never", "got", "due", "own"] [] (defScope (topS 65)) := ⟨rfl, rfl, rfl, by decide +kernel, rfl, by decide +kernel, by decide +kernel⟩
def b__law_picked_right : CS := (sSeq (sAsg (gT (gsC (gN 0) (gsC (gN 1) (gsC (gN 2) (gsC (gN 3) gsN))))) (cCall0 m__law_named))
    (sSeq (sSet 4 (cN (nLst (aC (cCall m_can_be_picked (aC (cC (.int 3)) (aC (cV 0) (aC (cTup (aC (cC (.int 0)) (aC (cC (.int 1)) (aC (cC (.int 2)) aN)))) aN)))) (aC (cCall m_can_be_picked (aC (cC (.int 3)) (aC (cV 0) (aC (cTup (aC (cC (.int 0)) (aC (cC (.int 1)) aN))) aN)))) (aC (cCallK m_can_be_picked [2, 1, 0] aN (aC (cN (nLst (aC (cC (.int 1)) (aC (cC (.int 2)) aN)))) (aC (cCall (m__law_lists 14) (aC (cV 0) aN)) (aC (cC (.int 3)) aN)))) (aC (cCall m_can_be_picked (aC (cC (.int 3)) (aC (cV 1) (aC (cTup (aC (cC (.int 0)) (aC (cC (.int 1)) aN))) aN)))) (aC (cCall m_can_be_picked (aC (cC (.int 3)) (aC (cV 2) (aC (cTup (aC (cC (.int 0)) (aC (cC (.int 1)) (aC (cC (.int 2)) aN)))) aN)))) (aC (cCall m_can_be_picked (aC (cC (.int 2)) (aC (cV 3) (aC (cTup (aC (cC (.int 0)) aN)) aN)))) (aC (cCall m_can_be_picked (aC (cC (.int 1)) (aC (cTup aN) (aC (cTup (aC (cC (.int 0)) aN)) aN)))) aN))))))))))
    (sSeq (sSet 5 (cN (nLst (aC (cTup (aC (cC (.int 0)) (aC (cC (.int 2)) aN))) (aC (cTup (aC (cC (.int 0)) aN)) (aC (cTup (aC (cC (.int 1)) (aC (cC (.int 2)) aN))) (aC (cTup aN) (aC (cTup (aC (cC (.int 0)) (aC (cC (.int 1)) (aC (cC (.int 2)) aN)))) (aC (cTup aN) (aC (cTup (aC (cC (.int 0)) aN)) aN))))))))))
    (sSeq (sSet 4 (c2 addD (cV 4) (cN (nLst (aC (cCall m_fact_follows (aC (cC (.int 3)) (aC (cV 0) (aC (cTup (aC (cTup (aC (cC (.int 0)) (aC (cC (.int 1)) (aC (cC (.int 2)) aN)))) (aC (cTup (aC (cC (.int 0)) (aC (cC (.int 2)) aN))) aN))) aN)))) (aC (cCall m_fact_follows (aC (cC (.int 3)) (aC (cV 0) (aC (cTup (aC (cTup (aC (cC (.int 1)) (aC (cC (.int 2)) aN))) (aC (cTup (aC (cC (.int 2)) aN)) aN))) aN)))) (aC (cCallK m_fact_follows [2, 1, 0] aN (aC (cN (nLst (aC (cN (nLst (aC (cC (.int 0)) (aC (cC (.int 1)) aN)))) (aC (cN (nLst aN)) aN)))) (aC (cCall (m__law_lists 14) (aC (cV 1) aN)) (aC (cC (.int 3)) aN)))) (aC (cCall m_fact_follows (aC (cC (.int 3)) (aC (cTup aN) (aC (cTup (aC (cTup (aC (cC (.int 0)) (aC (cC (.int 1)) aN))) (aC (cTup (aC (cC (.int 0)) (aC (cC (.int 1)) aN))) aN))) aN)))) (aC (cCall m_fact_follows (aC (cC (.int 3)) (aC (cSl (cV 1) oN (oS (cC (.int 2)))) (aC (cTup (aC (cTup (aC (cC (.int 0)) (aC (cC (.int 2)) aN))) (aC (cTup (aC (cC (.int 0)) aN)) aN))) aN)))) aN)))))))))
    (sSeq (sSet 5 (c2 addD (cV 5) (cN (nLst (aC (cC (.bl true)) (aC (cC (.bl false)) (aC (cC (.bl true)) (aC (cC (.bl true)) (aC (cC (.bl true)) aN)))))))))
    (sSeq (sSet 4 (c2 addD (cV 4) (cN (nLst (aC (cCall m_is_breaking_order (aC (cC (.int 3)) (aC (cV 0) (aC (cTup (aC (cTup (aC (cC (.int 1)) (aC (cC (.int 2)) aN))) (aC (cTup (aC (cC (.int 2)) aN)) aN))) (aC (cTup (aC (cC (.int 0)) (aC (cC (.int 1)) (aC (cC (.int 2)) aN)))) aN))))) (aC (cCall m_is_breaking_order (aC (cC (.int 3)) (aC (cV 0) (aC (cTup (aC (cTup (aC (cC (.int 1)) (aC (cC (.int 2)) aN))) (aC (cTup (aC (cC (.int 2)) aN)) aN))) (aC (cCall m_breaking_order (aC (cC (.int 3)) (aC (cV 0) (aC (cTup (aC (cTup (aC (cC (.int 1)) (aC (cC (.int 2)) aN))) (aC (cTup (aC (cC (.int 2)) aN)) aN))) aN)))) aN))))) aN))))))
    (sSeq (sSet 4 (c2 addD (cV 4) (cN (nLst (aC (cCallK m_is_breaking_order [3, 2, 1, 0] aN (aC (cTup (aC (cC (.int 1)) (aC (cC (.int 0)) (aC (cC (.int 2)) aN)))) (aC (cN (nLst (aC (cN (nLst (aC (cC (.int 1)) (aC (cC (.int 2)) aN)))) (aC (cN (nLst (aC (cC (.int 2)) aN))) aN)))) (aC (cCall (m__law_lists 14) (aC (cV 0) aN)) (aC (cC (.int 3)) aN))))) (aC (cCall m_is_breaking_order (aC (cC (.int 3)) (aC (cV 0) (aC (cTup (aC (cTup (aC (cC (.int 1)) (aC (cC (.int 2)) aN))) (aC (cTup (aC (cC (.int 2)) aN)) aN))) (aC (cTup (aC (cC (.int 0)) (aC (cC (.int 2)) (aC (cC (.int 1)) aN)))) aN))))) aN))))))
    (sSeq (sSet 4 (c2 addD (cV 4) (cN (nLst (aC (cN (nLcE (iA (cTup (aC (cTup (aC (cC (.int 1)) (aC (cC (.int 0)) (aC (cC (.int 2)) aN)))) (aC (cN (nLst (aC (cC (.int 1)) (aC (cC (.int 0)) (aC (cC (.int 2)) aN))))) (aC (cTup (aC (cC (.int 1)) (aC (cC (.int 0)) aN))) (aC (cC .non) (aC (cTup (aC (cC (.int 2)) (aC (cC (.int 1)) (aC (cC (.int 0)) aN)))) aN))))))) [6] (gN 6) tYesC (cCall m_is_breaking_order (aC (cC (.int 3)) (aC (cTup aN) (aC (cTup (aC (cTup (aC (cC (.int 0)) (aC (cC (.int 1)) aN))) (aC (cTup (aC (cC (.int 0)) aN)) aN))) (aC (cV 6) aN))))))) aN)))))
    (sSeq (sSet 5 (c2 addD (cV 5) (cN (nLst (aC (cC (.bl true)) (aC (cC (.bl true)) (aC (cC (.bl false)) (aC (cC (.bl false)) (aC (cN (nLst (aC (cC (.bl true)) (aC (cC (.bl false)) (aC (cC (.bl false)) (aC (cC (.bl false)) (aC (cC (.bl true)) aN))))))) aN)))))))))
    (sSeq (sSet 4 (c2 addD (cV 4) (cN (nLst (aC (cCall m_needless_told_facts (aC (cC (.int 3)) (aC (c2 addD (cV 0) (cTup (aC (cTup (aC (cTup (aC (cC (.int 0)) (aC (cC (.int 1)) (aC (cC (.int 2)) aN)))) (aC (cTup (aC (cC (.int 0)) (aC (cC (.int 2)) aN))) aN))) aN))) aN))) (aC (cCall m_needless_told_facts (aC (cC (.int 3)) (aC (c2 mulD2 (cV 0) (cC (.int 2))) aN))) (aC (cCallK m_needless_told_facts [1, 0] aN (aC (cCall (m__law_lists 14) (aC (cV 2) aN)) (aC (cC (.int 3)) aN))) (aC (cCall m_needless_told_facts (aC (cC (.int 3)) (aC (cV 1) aN))) (aC (cCall m_needless_told_facts (aC (cC (.int 3)) (aC (cTup aN) aN))) (aC (cCall m_needless_told_facts (aC (cC (.int 3)) (aC (c2 addD (cSl (cV 1) oN (oS (cC (.int 2)))) (cTup (aC (cTup (aC (cTup (aC (cC (.int 0)) (aC (cC (.int 2)) aN))) (aC (cTup (aC (cC (.int 0)) aN)) aN))) aN))) aN))) aN))))))))))
    (sRet (cCall (m__law_same 14) (aC (cV 4) (aC (c2 addD (cV 5) (cN (nLst (aC (cTup (aC (cC (.int 1)) aN)) (aC (cTup (aC (cC (.int 0)) (aC (cC (.int 1)) aN))) (aC (cTup (aC (cC (.int 0)) aN)) (aC (cTup aN) (aC (cTup aN) (aC (cTup (aC (cC (.int 2)) aN)) aN))))))))) aN))))))))))))))
def m__law_picked_right : List D → Res D := cDef 0 7 b__law_picked_right
theorem solid__law_picked_right : Solid m__law_picked_right := solid_def _ _ _
theorem fm__law_picked_right (T : Tx0 ec0 ec1 K mg) : Fm P w K mg base (clsOf ec0 ec1) 19 "_law_picked_right" (topS 65) [] m__law_picked_right := by
  obtain ⟨f, fd, h1, h2, h3⟩ := T.f__law_picked_right
  exact fm_def (k := 18) h2 sc__law_picked_right h1 h3 rfl rfl fun cdv A outer s H E Fz hr => (ppss_cons (pps_asg (pp_call0 (fm__law_named T) solid__law_named (hr.mono (by decide)) (takes_of rfl rfl rfl rfl) rfl) (ppg_tup rfl (ppgs_cons (ppg_name (i := 0) sc__law_picked_right.nd rfl (by first | exact .inl rfl | exact .inr rfl)) (ppgs_cons (ppg_name (i := 1) sc__law_picked_right.nd rfl (by first | exact .inl rfl | exact .inr rfl)) (ppgs_cons (ppg_name (i := 2) sc__law_picked_right.nd rfl (by first | exact .inl rfl | exact .inr rfl)) (ppgs_cons (ppg_name (i := 3) sc__law_picked_right.nd rfl (by first | exact .inl rfl | exact .inr rfl)) ppgs_nil))))))
    (ppss_cons (pps_set (i := 4) sc__law_picked_right.nd rfl (by first | exact .inl rfl | exact .inr rfl) (PPN.pp (ppn_lst (ppa_cons (pp_call (fm_can_be_picked T) solid_can_be_picked (hr.mono (by decide)) (takes_of rfl rfl rfl rfl) rfl (ppa_cons pp_int (ppa_cons (pp_pv 0) (ppa_cons (pp_tup (ppa_cons pp_int (ppa_cons pp_int (ppa_cons pp_int ppa_nil)))) ppa_nil)))) (ppa_cons (pp_call (fm_can_be_picked T) solid_can_be_picked (hr.mono (by decide)) (takes_of rfl rfl rfl rfl) rfl (ppa_cons pp_int (ppa_cons (pp_pv 0) (ppa_cons (pp_tup (ppa_cons pp_int (ppa_cons pp_int ppa_nil))) ppa_nil)))) (ppa_cons (pp_callK0 (fm_can_be_picked T) solid_can_be_picked (hr.mono (by decide)) (takes_of rfl rfl rfl rfl) rfl (ppk_cons (PPN.pp (ppn_lst (ppa_cons pp_int (ppa_cons pp_int ppa_nil)))) (ppk_cons (pp_call (fm__law_lists T 14) (solid__law_lists 14) (hr.mono (by decide)) (takes_of rfl rfl rfl rfl) rfl (ppa_cons (pp_pv 0) ppa_nil)) (ppk_cons pp_int ppk_nil))) (fun f fd F => kb_of F (ix := [2, 1, 0]) (ks := ["menu", "facts", "n"]) (na := 0) fun _ _ _ _ _ _ _ us ws h1 h2 => match us, ws, h1, h2 with | [], [_, _, _], _, _ => .of_eq rfl) (alenS (alenS (alenS alen0)))) (ppa_cons (pp_call (fm_can_be_picked T) solid_can_be_picked (hr.mono (by decide)) (takes_of rfl rfl rfl rfl) rfl (ppa_cons pp_int (ppa_cons (pp_pv 1) (ppa_cons (pp_tup (ppa_cons pp_int (ppa_cons pp_int ppa_nil))) ppa_nil)))) (ppa_cons (pp_call (fm_can_be_picked T) solid_can_be_picked (hr.mono (by decide)) (takes_of rfl rfl rfl rfl) rfl (ppa_cons pp_int (ppa_cons (pp_pv 2) (ppa_cons (pp_tup (ppa_cons pp_int (ppa_cons pp_int (ppa_cons pp_int ppa_nil)))) ppa_nil)))) (ppa_cons (pp_call (fm_can_be_picked T) solid_can_be_picked (hr.mono (by decide)) (takes_of rfl rfl rfl rfl) rfl (ppa_cons pp_int (ppa_cons (pp_pv 3) (ppa_cons (pp_tup (ppa_cons pp_int ppa_nil)) ppa_nil)))) (ppa_cons (pp_call (fm_can_be_picked T) solid_can_be_picked (hr.mono (by decide)) (takes_of rfl rfl rfl rfl) rfl (ppa_cons pp_int (ppa_cons (pp_tup ppa_nil) (ppa_cons (pp_tup (ppa_cons pp_int ppa_nil)) ppa_nil)))) ppa_nil))))))))))
    (ppss_cons (pps_set (i := 5) sc__law_picked_right.nd rfl (by first | exact .inl rfl | exact .inr rfl) (PPN.pp (ppn_lst (ppa_cons (pp_tup (ppa_cons pp_int (ppa_cons pp_int ppa_nil))) (ppa_cons (pp_tup (ppa_cons pp_int ppa_nil)) (ppa_cons (pp_tup (ppa_cons pp_int (ppa_cons pp_int ppa_nil))) (ppa_cons (pp_tup ppa_nil) (ppa_cons (pp_tup (ppa_cons pp_int (ppa_cons pp_int (ppa_cons pp_int ppa_nil)))) (ppa_cons (pp_tup ppa_nil) (ppa_cons (pp_tup (ppa_cons pp_int ppa_nil)) ppa_nil))))))))))
    (ppss_cons (pps_set (i := 4) sc__law_picked_right.nd rfl (by first | exact .inl rfl | exact .inr rfl) (pp_op op_addP (pp_pv 4) (PPN.pp (ppn_lst (ppa_cons (pp_call (fm_fact_follows T) solid_fact_follows (hr.mono (by decide)) (takes_of rfl rfl rfl rfl) rfl (ppa_cons pp_int (ppa_cons (pp_pv 0) (ppa_cons (pp_tup (ppa_cons (pp_tup (ppa_cons pp_int (ppa_cons pp_int (ppa_cons pp_int ppa_nil)))) (ppa_cons (pp_tup (ppa_cons pp_int (ppa_cons pp_int ppa_nil))) ppa_nil))) ppa_nil)))) (ppa_cons (pp_call (fm_fact_follows T) solid_fact_follows (hr.mono (by decide)) (takes_of rfl rfl rfl rfl) rfl (ppa_cons pp_int (ppa_cons (pp_pv 0) (ppa_cons (pp_tup (ppa_cons (pp_tup (ppa_cons pp_int (ppa_cons pp_int ppa_nil))) (ppa_cons (pp_tup (ppa_cons pp_int ppa_nil)) ppa_nil))) ppa_nil)))) (ppa_cons (pp_callK0 (fm_fact_follows T) solid_fact_follows (hr.mono (by decide)) (takes_of rfl rfl rfl rfl) rfl (ppk_cons (PPN.pp (ppn_lst (ppa_cons (PPN.pp (ppn_lst (ppa_cons pp_int (ppa_cons pp_int ppa_nil)))) (ppa_cons (PPN.pp (ppn_lst ppa_nil)) ppa_nil)))) (ppk_cons (pp_call (fm__law_lists T 14) (solid__law_lists 14) (hr.mono (by decide)) (takes_of rfl rfl rfl rfl) rfl (ppa_cons (pp_pv 1) ppa_nil)) (ppk_cons pp_int ppk_nil))) (fun f fd F => kb_of F (ix := [2, 1, 0]) (ks := ["fact", "facts", "n"]) (na := 0) fun _ _ _ _ _ _ _ us ws h1 h2 => match us, ws, h1, h2 with | [], [_, _, _], _, _ => .of_eq rfl) (alenS (alenS (alenS alen0)))) (ppa_cons (pp_call (fm_fact_follows T) solid_fact_follows (hr.mono (by decide)) (takes_of rfl rfl rfl rfl) rfl (ppa_cons pp_int (ppa_cons (pp_tup ppa_nil) (ppa_cons (pp_tup (ppa_cons (pp_tup (ppa_cons pp_int (ppa_cons pp_int ppa_nil))) (ppa_cons (pp_tup (ppa_cons pp_int (ppa_cons pp_int ppa_nil))) ppa_nil))) ppa_nil)))) (ppa_cons (pp_call (fm_fact_follows T) solid_fact_follows (hr.mono (by decide)) (takes_of rfl rfl rfl rfl) rfl (ppa_cons pp_int (ppa_cons (pp_slice (pp_pv 1) ppo_none (ppo_some pp_int)) (ppa_cons (pp_tup (ppa_cons (pp_tup (ppa_cons pp_int (ppa_cons pp_int ppa_nil))) (ppa_cons (pp_tup (ppa_cons pp_int ppa_nil)) ppa_nil))) ppa_nil)))) ppa_nil)))))))))
    (ppss_cons (pps_set (i := 5) sc__law_picked_right.nd rfl (by first | exact .inl rfl | exact .inr rfl) (pp_op op_addP (pp_pv 5) (PPN.pp (ppn_lst (ppa_cons pp_bl (ppa_cons pp_bl (ppa_cons pp_bl (ppa_cons pp_bl (ppa_cons pp_bl ppa_nil)))))))))
    (ppss_cons (pps_set (i := 4) sc__law_picked_right.nd rfl (by first | exact .inl rfl | exact .inr rfl) (pp_op op_addP (pp_pv 4) (PPN.pp (ppn_lst (ppa_cons (pp_call (fm_is_breaking_order T) solid_is_breaking_order (hr.mono (by decide)) (takes_of rfl rfl rfl rfl) rfl (ppa_cons pp_int (ppa_cons (pp_pv 0) (ppa_cons (pp_tup (ppa_cons (pp_tup (ppa_cons pp_int (ppa_cons pp_int ppa_nil))) (ppa_cons (pp_tup (ppa_cons pp_int ppa_nil)) ppa_nil))) (ppa_cons (pp_tup (ppa_cons pp_int (ppa_cons pp_int (ppa_cons pp_int ppa_nil)))) ppa_nil))))) (ppa_cons (pp_call (fm_is_breaking_order T) solid_is_breaking_order (hr.mono (by decide)) (takes_of rfl rfl rfl rfl) rfl (ppa_cons pp_int (ppa_cons (pp_pv 0) (ppa_cons (pp_tup (ppa_cons (pp_tup (ppa_cons pp_int (ppa_cons pp_int ppa_nil))) (ppa_cons (pp_tup (ppa_cons pp_int ppa_nil)) ppa_nil))) (ppa_cons (pp_call (fm_breaking_order T) solid_breaking_order (hr.mono (by decide)) (takes_of rfl rfl rfl rfl) rfl (ppa_cons pp_int (ppa_cons (pp_pv 0) (ppa_cons (pp_tup (ppa_cons (pp_tup (ppa_cons pp_int (ppa_cons pp_int ppa_nil))) (ppa_cons (pp_tup (ppa_cons pp_int ppa_nil)) ppa_nil))) ppa_nil)))) ppa_nil))))) ppa_nil))))))
    (ppss_cons (pps_set (i := 4) sc__law_picked_right.nd rfl (by first | exact .inl rfl | exact .inr rfl) (pp_op op_addP (pp_pv 4) (PPN.pp (ppn_lst (ppa_cons (pp_callK0 (fm_is_breaking_order T) solid_is_breaking_order (hr.mono (by decide)) (takes_of rfl rfl rfl rfl) rfl (ppk_cons (pp_tup (ppa_cons pp_int (ppa_cons pp_int (ppa_cons pp_int ppa_nil)))) (ppk_cons (PPN.pp (ppn_lst (ppa_cons (PPN.pp (ppn_lst (ppa_cons pp_int (ppa_cons pp_int ppa_nil)))) (ppa_cons (PPN.pp (ppn_lst (ppa_cons pp_int ppa_nil))) ppa_nil)))) (ppk_cons (pp_call (fm__law_lists T 14) (solid__law_lists 14) (hr.mono (by decide)) (takes_of rfl rfl rfl rfl) rfl (ppa_cons (pp_pv 0) ppa_nil)) (ppk_cons pp_int ppk_nil)))) (fun f fd F => kb_of F (ix := [3, 2, 1, 0]) (ks := ["thing", "fact", "facts", "n"]) (na := 0) fun _ _ _ _ _ _ _ us ws h1 h2 => match us, ws, h1, h2 with | [], [_, _, _, _], _, _ => .of_eq rfl) (alenS (alenS (alenS (alenS alen0))))) (ppa_cons (pp_call (fm_is_breaking_order T) solid_is_breaking_order (hr.mono (by decide)) (takes_of rfl rfl rfl rfl) rfl (ppa_cons pp_int (ppa_cons (pp_pv 0) (ppa_cons (pp_tup (ppa_cons (pp_tup (ppa_cons pp_int (ppa_cons pp_int ppa_nil))) (ppa_cons (pp_tup (ppa_cons pp_int ppa_nil)) ppa_nil))) (ppa_cons (pp_tup (ppa_cons pp_int (ppa_cons pp_int (ppa_cons pp_int ppa_nil)))) ppa_nil))))) ppa_nil))))))
    (ppss_cons (pps_set (i := 4) sc__law_picked_right.nd rfl (by first | exact .inl rfl | exact .inr rfl) (pp_op op_addP (pp_pv 4) (PPN.pp (ppn_lst (ppa_cons (PPN.pp (ppn_lcE (own := [("own", 6)]) rfl rfl (takes_of rfl rfl rfl rfl) rfl sc__law_picked_right.nd (ppi_seq (pp_tup (ppa_cons (pp_tup (ppa_cons pp_int (ppa_cons pp_int (ppa_cons pp_int ppa_nil)))) (ppa_cons (PPN.pp (ppn_lst (ppa_cons pp_int (ppa_cons pp_int (ppa_cons pp_int ppa_nil))))) (ppa_cons (pp_tup (ppa_cons pp_int (ppa_cons pp_int ppa_nil))) (ppa_cons pp_non (ppa_cons (pp_tup (ppa_cons pp_int (ppa_cons pp_int (ppa_cons pp_int ppa_nil)))) ppa_nil))))))) (blk_of rfl (by rfl)) (fun _ _ _ _ _ _ => (ppgw_name (i := 6) sc__law_picked_right.nd rfl (by first | exact .inl rfl | exact .inr rfl) (by decide))) (fun _ _ _ _ _ _ _ tkB => ppts_nil) (fun _ _ _ _ _ _ _ tkB => (pp_call (fm_is_breaking_order T) solid_is_breaking_order (hr.mono (by decide)) tkB rfl (ppa_cons pp_int (ppa_cons (pp_tup ppa_nil) (ppa_cons (pp_tup (ppa_cons (pp_tup (ppa_cons pp_int (ppa_cons pp_int ppa_nil))) (ppa_cons (pp_tup (ppa_cons pp_int ppa_nil)) ppa_nil))) (ppa_cons (pp_pv 6) ppa_nil)))))))) ppa_nil)))))
    (ppss_cons (pps_set (i := 5) sc__law_picked_right.nd rfl (by first | exact .inl rfl | exact .inr rfl) (pp_op op_addP (pp_pv 5) (PPN.pp (ppn_lst (ppa_cons pp_bl (ppa_cons pp_bl (ppa_cons pp_bl (ppa_cons pp_bl (ppa_cons (PPN.pp (ppn_lst (ppa_cons pp_bl (ppa_cons pp_bl (ppa_cons pp_bl (ppa_cons pp_bl (ppa_cons pp_bl ppa_nil))))))) ppa_nil)))))))))
    (ppss_cons (pps_set (i := 4) sc__law_picked_right.nd rfl (by first | exact .inl rfl | exact .inr rfl) (pp_op op_addP (pp_pv 4) (PPN.pp (ppn_lst (ppa_cons (pp_call (fm_needless_told_facts T) solid_needless_told_facts (hr.mono (by decide)) (takes_of rfl rfl rfl rfl) rfl (ppa_cons pp_int (ppa_cons (pp_op op_addP (pp_pv 0) (pp_tup (ppa_cons (pp_tup (ppa_cons (pp_tup (ppa_cons pp_int (ppa_cons pp_int (ppa_cons pp_int ppa_nil)))) (ppa_cons (pp_tup (ppa_cons pp_int (ppa_cons pp_int ppa_nil))) ppa_nil))) ppa_nil))) ppa_nil))) (ppa_cons (pp_call (fm_needless_told_facts T) solid_needless_told_facts (hr.mono (by decide)) (takes_of rfl rfl rfl rfl) rfl (ppa_cons pp_int (ppa_cons (pp_op op_mulP2 (pp_pv 0) pp_int) ppa_nil))) (ppa_cons (pp_callK0 (fm_needless_told_facts T) solid_needless_told_facts (hr.mono (by decide)) (takes_of rfl rfl rfl rfl) rfl (ppk_cons (pp_call (fm__law_lists T 14) (solid__law_lists 14) (hr.mono (by decide)) (takes_of rfl rfl rfl rfl) rfl (ppa_cons (pp_pv 2) ppa_nil)) (ppk_cons pp_int ppk_nil)) (fun f fd F => kb_of F (ix := [1, 0]) (ks := ["facts", "n"]) (na := 0) fun _ _ _ _ _ _ _ us ws h1 h2 => match us, ws, h1, h2 with | [], [_, _], _, _ => .of_eq rfl) (alenS (alenS alen0))) (ppa_cons (pp_call (fm_needless_told_facts T) solid_needless_told_facts (hr.mono (by decide)) (takes_of rfl rfl rfl rfl) rfl (ppa_cons pp_int (ppa_cons (pp_pv 1) ppa_nil))) (ppa_cons (pp_call (fm_needless_told_facts T) solid_needless_told_facts (hr.mono (by decide)) (takes_of rfl rfl rfl rfl) rfl (ppa_cons pp_int (ppa_cons (pp_tup ppa_nil) ppa_nil))) (ppa_cons (pp_call (fm_needless_told_facts T) solid_needless_told_facts (hr.mono (by decide)) (takes_of rfl rfl rfl rfl) rfl (ppa_cons pp_int (ppa_cons (pp_op op_addP (pp_slice (pp_pv 1) ppo_none (ppo_some pp_int)) (pp_tup (ppa_cons (pp_tup (ppa_cons (pp_tup (ppa_cons pp_int (ppa_cons pp_int ppa_nil))) (ppa_cons (pp_tup (ppa_cons pp_int ppa_nil)) ppa_nil))) ppa_nil))) ppa_nil))) ppa_nil))))))))))
    (ppss_one (pps_ret (pp_call (fm__law_same T 14) (solid__law_same 14) (hr.mono (by decide)) (takes_of rfl rfl rfl rfl) rfl (ppa_cons (pp_pv 4) (ppa_cons (pp_op op_addP (pp_pv 5) (PPN.pp (ppn_lst (ppa_cons (pp_tup (ppa_cons pp_int ppa_nil)) (ppa_cons (pp_tup (ppa_cons pp_int (ppa_cons pp_int ppa_nil))) (ppa_cons (pp_tup (ppa_cons pp_int ppa_nil)) (ppa_cons (pp_tup ppa_nil) (ppa_cons (pp_tup ppa_nil) (ppa_cons (pp_tup (ppa_cons pp_int ppa_nil)) ppa_nil))))))))) ppa_nil)))))))))))))))
/-! lots_ahead -/
theorem sc_lots_ahead : FnScope ["order", "own", "place"] ["order"] (defScope (topS 24)) := ⟨rfl, rfl, rfl, by decide +kernel, rfl, by decide +kernel, by decide +kernel⟩
def b_lots_ahead : CS := (sSeq (sSet 1 (cCall m_told_order (aC (cV 0) aN)))
    (sRet (cN (nLcE (iR rng1 (aC (c2 addD (c1 lenD (cV 1)) (cC (.int 1))) aN)) [2] (gN 2) tYesC (cCall m_set_of (aC (cSl (cV 1) oN (oS (cV 2))) aN))))))
def m_lots_ahead : List D → Res D := cDef 1 2 b_lots_ahead
theorem solid_lots_ahead : Solid m_lots_ahead := solid_def _ _ _
theorem fm_lots_ahead (T : Tx0 ec0 ec1 K mg) : Fm P w K mg base (clsOf ec0 ec1) 16 "lots_ahead" (topS 24) ["order"] m_lots_ahead := by
  obtain ⟨f, fd, h1, h2, h3⟩ := T.f_lots_ahead
  exact fm_def (k := 15) h2 sc_lots_ahead h1 h3 rfl rfl fun cdv A outer s H E Fz hr => (ppss_cons (pps_set (i := 1) sc_lots_ahead.nd rfl (by first | exact .inl rfl | exact .inr rfl) (pp_call (fm_told_order T) solid_told_order (hr.mono (by decide)) (takes_of rfl rfl rfl rfl) rfl (ppa_cons (pp_pv 0) ppa_nil)))
    (ppss_one (pps_ret (PPN.pp (ppn_lcE (own := [("place", 2)]) rfl rfl (takes_of rfl rfl rfl rfl) rfl sc_lots_ahead.nd (ppi_rng1 rfl T.z_range (ppa_cons (pp_op op_addP (pp_b1 call_lenP rfl T.z_len rfl (pp_pv 1)) pp_int) ppa_nil)) (blk_of rfl (by rfl)) (fun _ _ _ _ _ _ => (ppgw_name (i := 2) sc_lots_ahead.nd rfl (by first | exact .inl rfl | exact .inr rfl) (by decide))) (fun _ _ _ _ _ _ _ tkB => ppts_nil) (fun _ _ _ _ _ _ _ tkB => (pp_call (fm_set_of T) solid_set_of (hr.mono (by decide)) tkB rfl (ppa_cons (pp_slice (pp_pv 1) ppo_none (ppo_some (pp_pv 2))) ppa_nil))))))))
/-! is_let -/
theorem sc_is_let : FnScope ["n", "family", "order", "own", "lot"] ["n", "family", "order"] (defScope (topS 37)) := ⟨rfl, rfl, rfl, by decide +kernel, rfl, by decide +kernel, by decide +kernel⟩
def b_is_let : CS := (sSeq (sSet 3 (cCall m_sure_family (aC (cV 0) (aC (cV 1) aN))))
    (sRet (c1 allD (cN (nLc (iA (cCall m_lots_ahead (aC (cCall m_order_told (aC (cV 0) (aC (cV 2) aN))) aN))) [4] (gN 4) tYesC (c2 inD (cV 4) (cV 3)))))))
def m_is_let : List D → Res D := cDef 3 2 b_is_let
theorem solid_is_let : Solid m_is_let := solid_def _ _ _
theorem fm_is_let (T : Tx0 ec0 ec1 K mg) : Fm P w K mg base (clsOf ec0 ec1) 18 "is_let" (topS 37) ["n", "family", "order"] m_is_let := by
  obtain ⟨f, fd, h1, h2, h3⟩ := T.f_is_let
  exact fm_def (k := 17) h2 sc_is_let h1 h3 rfl rfl fun cdv A outer s H E Fz hr => (ppss_cons (pps_set (i := 3) sc_is_let.nd rfl (by first | exact .inl rfl | exact .inr rfl) (pp_call (fm_sure_family T) solid_sure_family (hr.mono (by decide)) (takes_of rfl rfl rfl rfl) rfl (ppa_cons (pp_pv 0) (ppa_cons (pp_pv 1) ppa_nil))))
    (ppss_one (pps_ret (pp_b1 (call_allP rfl) rfl T.z_all rfl (PPN.pp (ppn_lc (own := [("lot", 4)]) rfl sc_is_let.nd (ppi_seq (pp_call (fm_lots_ahead T) solid_lots_ahead (hr.mono (by decide)) (takes_of rfl rfl rfl rfl) rfl (ppa_cons (pp_call (fm_order_told T) solid_order_told (hr.mono (by decide)) (takes_of rfl rfl rfl rfl) rfl (ppa_cons (pp_pv 0) (ppa_cons (pp_pv 2) ppa_nil))) ppa_nil))) (blk_of rfl (by rfl)) (fun _ _ _ _ _ => (ppgw_name (i := 4) sc_is_let.nd rfl (by first | exact .inl rfl | exact .inr rfl) (by decide))) (fun _ _ _ _ _ => ppts_nil) (fun _ _ _ _ _ => (pp_cmp (op_inP hr.units) (pp_pv 4) (pp_pv 3) (by rfl)))))))))
/-! keeps_facts -/
theorem sc_keeps_facts : FnScope ["n", "facts", "order", "own"] ["n", "facts", "order"] (defScope (topS 39)) := ⟨rfl, rfl, rfl, by decide +kernel, rfl, by decide +kernel, by decide +kernel⟩
def b_keeps_facts : CS := (sSeq (sSet 3 (cCall m_sure_facts (aC (cV 0) (aC (cV 1) aN))))
    (sRet (cCall m_picks_all (aC (cV 3) (aC (cCall m_order_told (aC (cV 0) (aC (cV 2) aN))) aN)))))
def m_keeps_facts : List D → Res D := cDef 3 1 b_keeps_facts
theorem solid_keeps_facts : Solid m_keeps_facts := solid_def _ _ _
theorem fm_keeps_facts (T : Tx0 ec0 ec1 K mg) : Fm P w K mg base (clsOf ec0 ec1) 18 "keeps_facts" (topS 39) ["n", "facts", "order"] m_keeps_facts := by
  obtain ⟨f, fd, h1, h2, h3⟩ := T.f_keeps_facts
  exact fm_def (k := 17) h2 sc_keeps_facts h1 h3 rfl rfl fun cdv A outer s H E Fz hr => (ppss_cons (pps_set (i := 3) sc_keeps_facts.nd rfl (by first | exact .inl rfl | exact .inr rfl) (pp_call (fm_sure_facts T) solid_sure_facts (hr.mono (by decide)) (takes_of rfl rfl rfl rfl) rfl (ppa_cons (pp_pv 0) (ppa_cons (pp_pv 1) ppa_nil))))
    (ppss_one (pps_ret (pp_call (fm_picks_all T) solid_picks_all (hr.mono (by decide)) (takes_of rfl rfl rfl rfl) rfl (ppa_cons (pp_pv 3) (ppa_cons (pp_call (fm_order_told T) solid_order_told (hr.mono (by decide)) (takes_of rfl rfl rfl rfl) rfl (ppa_cons (pp_pv 0) (ppa_cons (pp_pv 2) ppa_nil))) ppa_nil))))))
/-! sure_lot -/
theorem sc_sure_lot : FnScope ["n", "lot", "own"] ["n", "lot"] (defScope (topS 15)) := ⟨rfl, rfl, rfl, by decide +kernel, rfl, by decide +kernel, by decide +kernel⟩
def b_sure_lot : CS := (sSeq (sSet 2 (cCall (m_tupled 14) (aC (cV 1) aN)))
    (sSeq (sIf (tNot (tV (cCall m_is_lot (aC (cV 0) (aC (cV 2) aN))))) (sRaise 0) sNx)
    (sRet (cV 2))))
def m_sure_lot : List D → Res D := cDef 2 1 b_sure_lot
theorem solid_sure_lot : Solid m_sure_lot := solid_def _ _ _
theorem fm_sure_lot (T : Tx0 ec0 ec1 K mg) : Fm P w K mg base (clsOf ec0 ec1) 15 "sure_lot" (topS 15) ["n", "lot"] m_sure_lot := by
  obtain ⟨f, fd, h1, h2, h3⟩ := T.f_sure_lot
  exact fm_def (k := 14) h2 sc_sure_lot h1 h3 rfl rfl fun cdv A outer s H E Fz hr => (ppss_cons (pps_set (i := 2) sc_sure_lot.nd rfl (by first | exact .inl rfl | exact .inr rfl) (pp_call (fm_tupled T 14) (solid_tupled 14) (hr.mono (by decide)) (takes_of rfl rfl rfl rfl) rfl (ppa_cons (pp_pv 1) ppa_nil)))
    (ppss_cons (pps_if (ppt_not (ppt_val (pp_call (fm_is_lot T) solid_is_lot (hr.mono (by decide)) (takes_of rfl rfl rfl rfl) rfl (ppa_cons (pp_pv 0) (ppa_cons (pp_pv 2) ppa_nil))))) (ppss_one (pps_raise (c := 0) rfl (takes_of rfl rfl rfl rfl) (pmk_own0 PySem.F.excBase_ValueError T.o_Unfit.x T.o_Unfit.g T.o_Unfit.k (raises_own T.o_Unfit.b T.o_Unfit.t) rfl))) ppss_nil)
    (ppss_one (pps_ret (pp_pv 2)))))
/-! lets_lot -/
theorem sc_lets_lot : FnScope ["n", "facts", "lot", "own"] ["n", "facts", "lot"] (defScope (topS 32)) := ⟨rfl, rfl, rfl, by decide +kernel, rfl, by decide +kernel, by decide +kernel⟩
def b_lets_lot : CS := (sSeq (sSet 3 (cCall m_sure_facts (aC (cV 0) (aC (cV 1) aN))))
    (sRet (cCall m_lets (aC (cV 3) (aC (cCall m_sure_lot (aC (cV 0) (aC (cV 2) aN))) aN)))))
def m_lets_lot : List D → Res D := cDef 3 1 b_lets_lot
theorem solid_lets_lot : Solid m_lets_lot := solid_def _ _ _
theorem fm_lets_lot (T : Tx0 ec0 ec1 K mg) : Fm P w K mg base (clsOf ec0 ec1) 16 "lets_lot" (topS 32) ["n", "facts", "lot"] m_lets_lot := by
  obtain ⟨f, fd, h1, h2, h3⟩ := T.f_lets_lot
  exact fm_def (k := 15) h2 sc_lets_lot h1 h3 rfl rfl fun cdv A outer s H E Fz hr => (ppss_cons (pps_set (i := 3) sc_lets_lot.nd rfl (by first | exact .inl rfl | exact .inr rfl) (pp_call (fm_sure_facts T) solid_sure_facts (hr.mono (by decide)) (takes_of rfl rfl rfl rfl) rfl (ppa_cons (pp_pv 0) (ppa_cons (pp_pv 1) ppa_nil))))
    (ppss_one (pps_ret (pp_call (fm_lets T) solid_lets (hr.mono (by decide)) (takes_of rfl rfl rfl rfl) rfl (ppa_cons (pp_pv 3) (ppa_cons (pp_call (fm_sure_lot T) solid_sure_lot (hr.mono (by decide)) (takes_of rfl rfl rfl rfl) rfl (ppa_cons (pp_pv 0) (ppa_cons (pp_pv 2) ppa_nil))) ppa_nil))))))
/-! _law_heard -/
theorem sc__law_heard : FnScope ["door", "n", "facts", "more", "first", "error"] ["door", "n", "facts", "more"] (defScope (topS 66)) := ⟨rfl, rfl, rfl, by decide +kernel, rfl, by decide +kernel, by decide +kernel⟩
def b__law_heard : CS := (sSeq (sSet 4 (c2 ixD (cCall0 m__law_named) (cC (.int 0))))
    (tryM (sSeq (sIf (tV (c2 ltD2 (cV 0) (cC (.int 5)))) (sRet (cCallFs [m_let_lots, m_laid, m_some_order, m_stuck_set, m_needless_told_facts] (cV 0) (aC (cV 1) (aC (cV 2) aN)))) sNx)
    (sSeq (sIf (tV (c2 ltD2 (cV 0) (cC (.int 11)))) (sRet (cCallFs [m_lets_lot, m_keeps_facts, m_can_be_picked, m_fact_follows, m_breaking_order, m_is_stuck_set] (c2 subD (cV 0) (cC (.int 5))) (aC (cV 1) (aC (cV 2) (aC (cV 3) aN))))) sNx)
    (sSeq (sIf (tV (c2 ltD2 (cV 0) (cC (.int 15)))) (sRet (cIf (tV (c2 ltD2 (cV 0) (cC (.int 13)))) (cCallFs [m_let_orders, m_reached_lots] (c2 subD (cV 0) (cC (.int 11))) (aC (cV 1) (aC (cV 2) aN))) (cCallFs [m_is_let, m_family_met] (c2 subD (cV 0) (cC (.int 13))) (aC (cV 1) (aC (cV 2) (aC (cV 3) aN)))))) sNx)
    (sRet (cIf (tV (c2 eqD (cV 0) (cC (.int 15)))) (cCall m_line_family (aC (cV 1) (aC (cV 3) aN))) (cCall m_is_breaking_order (aC (cV 1) (aC (cV 2) (aC (cV 3) (aC (cC .non) aN)))))))))) [(exm1, fun c e => inE 5 e (.rt (lstE "paper" isEValueError c))), (exm0, fun c e => inE 5 e (.rt (lstE "unfit" isEValueError c)))]))
def m__law_heard : List D → Res D := cDef 4 2 b__law_heard
theorem solid__law_heard : Solid m__law_heard := solid_def _ _ _
theorem fm__law_heard (T : Tx0 ec0 ec1 K mg) : Fm P w K mg base (clsOf ec0 ec1) 19 "_law_heard" (topS 66) ["door", "n", "facts", "more"] m__law_heard := by
  obtain ⟨f, fd, h1, h2, h3⟩ := T.f__law_heard
  exact fm_def (k := 18) h2 sc__law_heard h1 h3 rfl rfl fun cdv A outer s H E Fz hr => (ppss_cons (pps_set (i := 4) sc__law_heard.nd rfl (by first | exact .inl rfl | exact .inr rfl) (pp_ix (pp_call0 (fm__law_named T) solid__law_named (hr.mono (by decide)) (takes_of rfl rfl rfl rfl) rfl) pp_int))
    (ppss_one (pps_tryM rfl rfl sc__law_heard.nd (takes_of rfl rfl rfl rfl) (fun _ _ _ tk hp => (ppss_cons (pps_if (ppt_cmp (op_ltP2 hr.units) (pp_pv 0) pp_int (nomark _)) (ppss_one (pps_ret (pp_callFs (fs_cons (fm_let_lots T) solid_let_lots (hr.mono (by decide)) rfl (fs_cons (fm_laid T) solid_laid (hr.mono (by decide)) rfl (fs_cons (fm_some_order T) solid_some_order (hr.mono (by decide)) rfl (fs_cons (fm_stuck_set T) solid_stuck_set (hr.mono (by decide)) rfl (fs_cons (fm_needless_told_facts T) solid_needless_told_facts (hr.mono (by decide)) rfl fs_nil))))) tk (pp_pv 0) (ppa_cons (pp_pv 1) (ppa_cons (pp_pv 2) ppa_nil))))) ppss_nil)
    (ppss_cons (pps_if (ppt_cmp (op_ltP2 hr.units) (pp_pv 0) pp_int (nomark _)) (ppss_one (pps_ret (pp_callFs (fs_cons (fm_lets_lot T) solid_lets_lot (hr.mono (by decide)) rfl (fs_cons (fm_keeps_facts T) solid_keeps_facts (hr.mono (by decide)) rfl (fs_cons (fm_can_be_picked T) solid_can_be_picked (hr.mono (by decide)) rfl (fs_cons (fm_fact_follows T) solid_fact_follows (hr.mono (by decide)) rfl (fs_cons (fm_breaking_order T) solid_breaking_order (hr.mono (by decide)) rfl (fs_cons (fm_is_stuck_set T) solid_is_stuck_set (hr.mono (by decide)) rfl fs_nil)))))) tk (pp_op op_subP (pp_pv 0) pp_int) (ppa_cons (pp_pv 1) (ppa_cons (pp_pv 2) (ppa_cons (pp_pv 3) ppa_nil)))))) ppss_nil)
    (ppss_cons (pps_if (ppt_cmp (op_ltP2 hr.units) (pp_pv 0) pp_int (nomark _)) (ppss_one (pps_ret (pp_if (ppt_cmp (op_ltP2 hr.units) (pp_pv 0) pp_int (nomark _)) (pp_callFs (fs_cons (fm_let_orders T) solid_let_orders (hr.mono (by decide)) rfl (fs_cons (fm_reached_lots T) solid_reached_lots (hr.mono (by decide)) rfl fs_nil)) tk (pp_op op_subP (pp_pv 0) pp_int) (ppa_cons (pp_pv 1) (ppa_cons (pp_pv 2) ppa_nil))) (pp_callFs (fs_cons (fm_is_let T) solid_is_let (hr.mono (by decide)) rfl (fs_cons (fm_family_met T) solid_family_met (hr.mono (by decide)) rfl fs_nil)) tk (pp_op op_subP (pp_pv 0) pp_int) (ppa_cons (pp_pv 1) (ppa_cons (pp_pv 2) (ppa_cons (pp_pv 3) ppa_nil))))))) ppss_nil)
    (ppss_one (pps_ret (pp_if (ppt_cmp (op_eqP hr.units) (pp_pv 0) pp_int (nomark _)) (pp_call (fm_line_family T) solid_line_family (hr.mono (by decide)) tk rfl (ppa_cons (pp_pv 1) (ppa_cons (pp_pv 3) ppa_nil))) (pp_call (fm_is_breaking_order T) solid_is_breaking_order (hr.mono (by decide)) tk rfl (ppa_cons (pp_pv 1) (ppa_cons (pp_pv 2) (ppa_cons (pp_pv 3) (ppa_cons pp_non ppa_nil)))))))))))) (pph_ret (i := 5) (exm := exm1) (isE := isEValueError) sc__law_heard.nd rfl rfl ⟨rfl, by decide, .inl T.o_NoPaper.g⟩ T.ex_NoPaper T.is_ValueError rfl T.z_isinstance rfl T.z_ValueError rfl (pph_ret (i := 5) (exm := exm0) (isE := isEValueError) sc__law_heard.nd rfl rfl ⟨rfl, by decide, .inl T.o_Unfit.g⟩ T.ex_Unfit T.is_ValueError rfl T.z_isinstance rfl T.z_ValueError rfl PPH.nil)))))
/-! _law_refused_right -/
theorem sc__law_refused_right : FnScope ["first", "ring", "blank", "never", "got", "due", "wide", "door", "more", "own"] [] (defScope (topS 67)) := ⟨rfl, rfl, rfl, by decide +kernel, rfl, by decide +kernel, by decide +kernel⟩
def b__law_refused_right : CS := (sSeq (sAsg (gT (gsC (gN 0) (gsC (gN 1) (gsC (gN 2) (gsC (gN 3) gsN))))) (cCall0 m__law_named))
    (sSeq (sSet 4 (cN (nLst (aC (cCall m__law_heard (aC (cC (.int 2)) (aC (cC (.int 3)) (aC (cV 1) (aC (cC .non) aN))))) (aC (cCall m__law_heard (aC (cC (.int 2)) (aC (cC (.int 2)) (aC (cV 3) (aC (cC .non) aN))))) (aC (cCall m__law_heard (aC (cC (.int 3)) (aC (cC (.int 3)) (aC (cV 0) (aC (cC .non) aN))))) (aC (cCall m__law_heard (aC (cC (.int 3)) (aC (cC (.int 1)) (aC (cTup aN) (aC (cC .non) aN))))) (aC (cCall m__law_heard (aC (cC (.int 9)) (aC (cC (.int 3)) (aC (cV 0) (aC (cTup (aC (cTup (aC (cC (.int 0)) (aC (cC (.int 1)) (aC (cC (.int 2)) aN)))) (aC (cTup (aC (cC (.int 0)) (aC (cC (.int 2)) aN))) aN))) aN))))) (aC (cCall m__law_heard (aC (cC (.int 9)) (aC (cC (.int 3)) (aC (cV 1) (aC (cTup (aC (cTup (aC (cC (.int 0)) (aC (cC (.int 1)) aN))) (aC (cTup aN) aN))) aN))))) aN)))))))))
    (sSeq (sAsg (gT (gsC (gN 5) (gsC (gN 6) gsN))) (cTup (aC (c2 mulD2 (cN (nLst (aC (cN (nLst (aC (cC (.str "paper")) (aC (cC (.bl true)) aN)))) aN))) (cC (.int 6))) (aC (cTup (aC (cTup aN) (aC (cTup (aC (cC (.int 0)) aN)) (aC (cTup (aC (cC (.int 0)) (aC (cC (.int 1)) aN))) (aC (cTup (aC (cC (.int 0)) (aC (cC (.int 1)) (aC (cC (.int 2)) aN)))) aN))))) aN))))
    (sSeq (sFor (iA (c2 addD (cN (nRng1 (cC (.int 11)))) (cN (nLst (aC (cC (.int 16)) aN))))) (gN 7) (sSeq (sSet 8 (cIf (tV (cCh ltD2 ltD2 (cC (.int 4)) (cV 7) (cC (.int 11)))) (c2 ixD (cN (nLst (aC (cTup (aC (cC (.int 0)) aN)) (aC (cTup (aC (cC (.int 0)) (aC (cC (.int 1)) (aC (cC (.int 2)) aN)))) (aC (cTup (aC (cC (.int 0)) aN)) (aC (c2 ixD (cV 0) (cC (.int 0))) (aC (c2 ixD (cV 0) (cC (.int 0))) (aC (cC .non) aN)))))))) (c2 subD (cV 7) (cC (.int 5)))) (cIf (tV (c2 eqD (cV 7) (cC (.int 16)))) (c2 ixD (cV 0) (cC (.int 0))) (cC .non))))
    (sSet 4 (c2 addD (c2 addD (cV 4) (cN (nLcE (iA (cTup (aC (cTup (aC (cTup (aC (cTup (aC (cC (.int 0)) (aC (cC (.int 1)) aN))) (aC (cTup (aC (cC (.int 2)) aN)) aN))) aN)) (aC (c2 ixD (cV 0) (cC (.int 0))) (aC (cC .non) (aC (cTup (aC (cTup (aC (cTup aN) (aC (cTup aN) aN))) aN)) aN)))))) [9] (gN 9) tYesC (cCall m__law_heard (aC (cV 7) (aC (cC (.int 3)) (aC (cV 9) (aC (cV 8) aN)))))))) (cN (nLst (aC (cCall m__law_heard (aC (cV 7) (aC (cC (.int 0)) (aC (cTup aN) (aC (cV 8) aN))))) (aC (cCall m__law_heard (aC (cV 7) (aC (cC .non) (aC (cTup aN) (aC (cV 8) aN))))) (aC (cCall m__law_heard (aC (cV 7) (aC (cC (.bl true)) (aC (cTup aN) (aC (cV 8) aN))))) aN)))))))))
    (sSeq (sSet 4 (c2 addD (c2 addD (c2 addD (cV 4) (cN (nLcE (iA (cTup (aC (cTup (aC (cC (.int 1)) (aC (cC (.int 0)) aN))) (aC (cTup (aC (cC (.int 3)) aN)) (aC (cC .non) aN))))) [9] (gN 9) tYesC (cCall m__law_heard (aC (cC (.int 5)) (aC (cC (.int 3)) (aC (cV 0) (aC (cV 9) aN)))))))) (cN (nLcE (iA (cTup (aC (cTup (aC (cC (.int 0)) (aC (cC (.int 1)) aN))) (aC (cTup (aC (cC (.int 0)) (aC (cC (.int 1)) (aC (cC (.int 1)) aN)))) (aC (cC .non) aN))))) [9] (gN 9) tYesC (cCall m__law_heard (aC (cC (.int 6)) (aC (cC (.int 3)) (aC (cV 0) (aC (cV 9) aN)))))))) (cN (nLcE (iA (cTup (aC (cTup aN) (aC (cTup (aC (cC (.int 1)) (aC (cC (.int 0)) aN))) (aC (cTup (aC (cC (.int 3)) aN)) (aC (cC .non) aN)))))) [9] (gN 9) tYesC (cCall m__law_heard (aC (cC (.int 7)) (aC (cC (.int 3)) (aC (cV 0) (aC (cV 9) aN)))))))))
    (sSeq (sSet 4 (c2 addD (c2 addD (cV 4) (cN (nLcE (iA (cTup (aC (cTup (aC (cTup (aC (cC (.int 0)) (aC (cC (.int 1)) aN))) (aC (cTup (aC (cC (.int 2)) aN)) aN))) (aC (cTup aN) (aC (cC .non) aN))))) [9] (gN 9) tYesC (cCall m__law_heard (aC (cC (.int 8)) (aC (cC (.int 3)) (aC (cV 0) (aC (cV 9) aN)))))))) (cN (nLst (aC (cCall m__law_heard (aC (cC (.int 9)) (aC (cC (.int 3)) (aC (cV 0) (aC (cTup (aC (cTup (aC (cC (.int 1)) (aC (cC (.int 0)) aN))) (aC (cTup (aC (cC (.int 0)) aN)) aN))) aN))))) (aC (cCall m__law_heard (aC (cC (.int 16)) (aC (cC (.int 3)) (aC (cV 0) (aC (cTup (aC (cTup (aC (cC (.int 0)) aN)) aN)) aN))))) aN))))))
    (sSeq (sFor (iA (cTup (aC (cC (.int 11)) (aC (cC (.int 12)) (aC (cC (.int 13)) (aC (cC (.int 14)) aN)))))) (gN 7) (sSet 4 (c2 addD (c2 addD (cV 4) (cN (nLcE (iA (cTup (aC (c1 revD (cV 6)) (aC (cSl (cV 6) (oS (cC (.int 1))) oN) (aC (cSl (cV 6) oN (oS (cC (.int 3)))) (aC (cC .non) aN)))))) [9] (gN 9) tYesC (cCall m__law_heard (aC (cV 7) (aC (cC (.int 3)) (aC (cV 9) (aC (cTup (aC (cC (.int 0)) (aC (cC (.int 1)) (aC (cC (.int 2)) aN)))) aN)))))))) (cN (nLst (aC (cCall m__law_heard (aC (cV 7) (aC (cC (.int 0)) (aC (cTup (aC (cTup aN) aN)) (aC (cTup (aC (cC (.int 0)) (aC (cC (.int 1)) (aC (cC (.int 2)) aN)))) aN))))) aN))))))
    (sSeq (sSet 4 (c2 addD (c2 addD (c2 addD (c2 addD (cV 4) (cN (nLcE (iA (cTup (aC (cTup (aC (cC (.int 0)) (aC (cC (.int 1)) aN))) (aC (cC .non) aN)))) [9] (gN 9) tYesC (cCall m__law_heard (aC (cC (.int 13)) (aC (cC (.int 3)) (aC (cV 6) (aC (cV 9) aN)))))))) (cN (nLcE (iA (cTup (aC (cSl (cV 6) (oS (cC (.int 1))) oN) (aC (cC .non) aN)))) [9] (gN 9) tYesC (cCall m__law_heard (aC (cC (.int 14)) (aC (cC (.int 3)) (aC (cV 6) (aC (cV 9) aN)))))))) (cN (nLcE (iA (cTup (aC (cTup (aC (cC (.int 0)) (aC (cC (.int 1)) aN))) (aC (cTup (aC (cC (.int 0)) (aC (cC (.int 1)) (aC (cC (.int 1)) aN)))) (aC (cC .non) aN))))) [9] (gN 9) tYesC (cCall m__law_heard (aC (cC (.int 15)) (aC (cC (.int 3)) (aC (cC .non) (aC (cV 9) aN)))))))) (cN (nLst (aC (cCall m__law_heard (aC (cC (.int 15)) (aC (cC (.int 0)) (aC (cC .non) (aC (cTup aN) aN))))) aN)))))
    (sRet (cCall (m__law_same 14) (aC (cV 4) (aC (c2 addD (cV 5) (c2 mulD2 (cN (nLst (aC (cN (nLst (aC (cC (.str "unfit")) (aC (cC (.bl true)) aN)))) aN))) (c2 subD (c1 lenD (cV 4)) (cC (.int 6))))) aN))))))))))))
def m__law_refused_right : List D → Res D := cDef 0 10 b__law_refused_right
theorem solid__law_refused_right : Solid m__law_refused_right := solid_def _ _ _
theorem fm__law_refused_right (T : Tx0 ec0 ec1 K mg) : Fm P w K mg base (clsOf ec0 ec1) 20 "_law_refused_right" (topS 67) [] m__law_refused_right := by
  obtain ⟨f, fd, h1, h2, h3⟩ := T.f__law_refused_right
  exact fm_def (k := 19) h2 sc__law_refused_right h1 h3 rfl rfl fun cdv A outer s H E Fz hr => (ppss_cons (pps_asg (pp_call0 (fm__law_named T) solid__law_named (hr.mono (by decide)) (takes_of rfl rfl rfl rfl) rfl) (ppg_tup rfl (ppgs_cons (ppg_name (i := 0) sc__law_refused_right.nd rfl (by first | exact .inl rfl | exact .inr rfl)) (ppgs_cons (ppg_name (i := 1) sc__law_refused_right.nd rfl (by first | exact .inl rfl | exact .inr rfl)) (ppgs_cons (ppg_name (i := 2) sc__law_refused_right.nd rfl (by first | exact .inl rfl | exact .inr rfl)) (ppgs_cons (ppg_name (i := 3) sc__law_refused_right.nd rfl (by first | exact .inl rfl | exact .inr rfl)) ppgs_nil))))))
    (ppss_cons (pps_set (i := 4) sc__law_refused_right.nd rfl (by first | exact .inl rfl | exact .inr rfl) (PPN.pp (ppn_lst (ppa_cons (pp_call (fm__law_heard T) solid__law_heard (hr.mono (by decide)) (takes_of rfl rfl rfl rfl) rfl (ppa_cons pp_int (ppa_cons pp_int (ppa_cons (pp_pv 1) (ppa_cons pp_non ppa_nil))))) (ppa_cons (pp_call (fm__law_heard T) solid__law_heard (hr.mono (by decide)) (takes_of rfl rfl rfl rfl) rfl (ppa_cons pp_int (ppa_cons pp_int (ppa_cons (pp_pv 3) (ppa_cons pp_non ppa_nil))))) (ppa_cons (pp_call (fm__law_heard T) solid__law_heard (hr.mono (by decide)) (takes_of rfl rfl rfl rfl) rfl (ppa_cons pp_int (ppa_cons pp_int (ppa_cons (pp_pv 0) (ppa_cons pp_non ppa_nil))))) (ppa_cons (pp_call (fm__law_heard T) solid__law_heard (hr.mono (by decide)) (takes_of rfl rfl rfl rfl) rfl (ppa_cons pp_int (ppa_cons pp_int (ppa_cons (pp_tup ppa_nil) (ppa_cons pp_non ppa_nil))))) (ppa_cons (pp_call (fm__law_heard T) solid__law_heard (hr.mono (by decide)) (takes_of rfl rfl rfl rfl) rfl (ppa_cons pp_int (ppa_cons pp_int (ppa_cons (pp_pv 0) (ppa_cons (pp_tup (ppa_cons (pp_tup (ppa_cons pp_int (ppa_cons pp_int (ppa_cons pp_int ppa_nil)))) (ppa_cons (pp_tup (ppa_cons pp_int (ppa_cons pp_int ppa_nil))) ppa_nil))) ppa_nil))))) (ppa_cons (pp_call (fm__law_heard T) solid__law_heard (hr.mono (by decide)) (takes_of rfl rfl rfl rfl) rfl (ppa_cons pp_int (ppa_cons pp_int (ppa_cons (pp_pv 1) (ppa_cons (pp_tup (ppa_cons (pp_tup (ppa_cons pp_int (ppa_cons pp_int ppa_nil))) (ppa_cons (pp_tup ppa_nil) ppa_nil))) ppa_nil))))) ppa_nil)))))))))
    (ppss_cons (pps_asg (pp_tup (ppa_cons (pp_op op_mulP2 (PPN.pp (ppn_lst (ppa_cons (PPN.pp (ppn_lst (ppa_cons pp_str (ppa_cons pp_bl ppa_nil)))) ppa_nil))) pp_int) (ppa_cons (pp_tup (ppa_cons (pp_tup ppa_nil) (ppa_cons (pp_tup (ppa_cons pp_int ppa_nil)) (ppa_cons (pp_tup (ppa_cons pp_int (ppa_cons pp_int ppa_nil))) (ppa_cons (pp_tup (ppa_cons pp_int (ppa_cons pp_int (ppa_cons pp_int ppa_nil)))) ppa_nil))))) ppa_nil))) (ppg_tup rfl (ppgs_cons (ppg_name (i := 5) sc__law_refused_right.nd rfl (by first | exact .inl rfl | exact .inr rfl)) (ppgs_cons (ppg_name (i := 6) sc__law_refused_right.nd rfl (by first | exact .inl rfl | exact .inr rfl)) ppgs_nil))))
    (ppss_cons (pps_for (passes_of rfl) rfl (ppi_seq (pp_op op_addP (PPN.pp (ppn_lrng1 rfl rfl T.z_list rfl T.z_range pp_int)) (PPN.pp (ppn_lst (ppa_cons pp_int ppa_nil))))) (ppg_name (i := 7) sc__law_refused_right.nd rfl (by first | exact .inl rfl | exact .inr rfl)) (ppss_cons (pps_set (i := 8) sc__law_refused_right.nd rfl (by first | exact .inl rfl | exact .inr rfl) (pp_if (ppt_chain (op_ltP2 hr.units) (op_ltP2 hr.units) pp_int (pp_pv 7) pp_int) (pp_ix (PPN.pp (ppn_lst (ppa_cons (pp_tup (ppa_cons pp_int ppa_nil)) (ppa_cons (pp_tup (ppa_cons pp_int (ppa_cons pp_int (ppa_cons pp_int ppa_nil)))) (ppa_cons (pp_tup (ppa_cons pp_int ppa_nil)) (ppa_cons (pp_ix (pp_pv 0) pp_int) (ppa_cons (pp_ix (pp_pv 0) pp_int) (ppa_cons pp_non ppa_nil)))))))) (pp_op op_subP (pp_pv 7) pp_int)) (pp_if (ppt_cmp (op_eqP hr.units) (pp_pv 7) pp_int (nomark _)) (pp_ix (pp_pv 0) pp_int) pp_non)))
    (ppss_one (pps_set (i := 4) sc__law_refused_right.nd rfl (by first | exact .inl rfl | exact .inr rfl) (pp_op op_addP (pp_op op_addP (pp_pv 4) (PPN.pp (ppn_lcE (own := [("own", 9)]) rfl rfl (takes_of rfl rfl rfl rfl) rfl sc__law_refused_right.nd (ppi_seq (pp_tup (ppa_cons (pp_tup (ppa_cons (pp_tup (ppa_cons (pp_tup (ppa_cons pp_int (ppa_cons pp_int ppa_nil))) (ppa_cons (pp_tup (ppa_cons pp_int ppa_nil)) ppa_nil))) ppa_nil)) (ppa_cons (pp_ix (pp_pv 0) pp_int) (ppa_cons pp_non (ppa_cons (pp_tup (ppa_cons (pp_tup (ppa_cons (pp_tup ppa_nil) (ppa_cons (pp_tup ppa_nil) ppa_nil))) ppa_nil)) ppa_nil)))))) (blk_of rfl (by rfl)) (fun _ _ _ _ _ _ => (ppgw_name (i := 9) sc__law_refused_right.nd rfl (by first | exact .inl rfl | exact .inr rfl) (by decide))) (fun _ _ _ _ _ _ _ tkB => ppts_nil) (fun _ _ _ _ _ _ _ tkB => (pp_call (fm__law_heard T) solid__law_heard (hr.mono (by decide)) tkB rfl (ppa_cons (pp_pv 7) (ppa_cons pp_int (ppa_cons (pp_pv 9) (ppa_cons (pp_pv 8) ppa_nil))))))))) (PPN.pp (ppn_lst (ppa_cons (pp_call (fm__law_heard T) solid__law_heard (hr.mono (by decide)) (takes_of rfl rfl rfl rfl) rfl (ppa_cons (pp_pv 7) (ppa_cons pp_int (ppa_cons (pp_tup ppa_nil) (ppa_cons (pp_pv 8) ppa_nil))))) (ppa_cons (pp_call (fm__law_heard T) solid__law_heard (hr.mono (by decide)) (takes_of rfl rfl rfl rfl) rfl (ppa_cons (pp_pv 7) (ppa_cons pp_non (ppa_cons (pp_tup ppa_nil) (ppa_cons (pp_pv 8) ppa_nil))))) (ppa_cons (pp_call (fm__law_heard T) solid__law_heard (hr.mono (by decide)) (takes_of rfl rfl rfl rfl) rfl (ppa_cons (pp_pv 7) (ppa_cons pp_bl (ppa_cons (pp_tup ppa_nil) (ppa_cons (pp_pv 8) ppa_nil))))) ppa_nil))))))))))
    (ppss_cons (pps_set (i := 4) sc__law_refused_right.nd rfl (by first | exact .inl rfl | exact .inr rfl) (pp_op op_addP (pp_op op_addP (pp_op op_addP (pp_pv 4) (PPN.pp (ppn_lcE (own := [("own", 9)]) rfl rfl (takes_of rfl rfl rfl rfl) rfl sc__law_refused_right.nd (ppi_seq (pp_tup (ppa_cons (pp_tup (ppa_cons pp_int (ppa_cons pp_int ppa_nil))) (ppa_cons (pp_tup (ppa_cons pp_int ppa_nil)) (ppa_cons pp_non ppa_nil))))) (blk_of rfl (by rfl)) (fun _ _ _ _ _ _ => (ppgw_name (i := 9) sc__law_refused_right.nd rfl (by first | exact .inl rfl | exact .inr rfl) (by decide))) (fun _ _ _ _ _ _ _ tkB => ppts_nil) (fun _ _ _ _ _ _ _ tkB => (pp_call (fm__law_heard T) solid__law_heard (hr.mono (by decide)) tkB rfl (ppa_cons pp_int (ppa_cons pp_int (ppa_cons (pp_pv 0) (ppa_cons (pp_pv 9) ppa_nil))))))))) (PPN.pp (ppn_lcE (own := [("own", 9)]) rfl rfl (takes_of rfl rfl rfl rfl) rfl sc__law_refused_right.nd (ppi_seq (pp_tup (ppa_cons (pp_tup (ppa_cons pp_int (ppa_cons pp_int ppa_nil))) (ppa_cons (pp_tup (ppa_cons pp_int (ppa_cons pp_int (ppa_cons pp_int ppa_nil)))) (ppa_cons pp_non ppa_nil))))) (blk_of rfl (by rfl)) (fun _ _ _ _ _ _ => (ppgw_name (i := 9) sc__law_refused_right.nd rfl (by first | exact .inl rfl | exact .inr rfl) (by decide))) (fun _ _ _ _ _ _ _ tkB => ppts_nil) (fun _ _ _ _ _ _ _ tkB => (pp_call (fm__law_heard T) solid__law_heard (hr.mono (by decide)) tkB rfl (ppa_cons pp_int (ppa_cons pp_int (ppa_cons (pp_pv 0) (ppa_cons (pp_pv 9) ppa_nil))))))))) (PPN.pp (ppn_lcE (own := [("own", 9)]) rfl rfl (takes_of rfl rfl rfl rfl) rfl sc__law_refused_right.nd (ppi_seq (pp_tup (ppa_cons (pp_tup ppa_nil) (ppa_cons (pp_tup (ppa_cons pp_int (ppa_cons pp_int ppa_nil))) (ppa_cons (pp_tup (ppa_cons pp_int ppa_nil)) (ppa_cons pp_non ppa_nil)))))) (blk_of rfl (by rfl)) (fun _ _ _ _ _ _ => (ppgw_name (i := 9) sc__law_refused_right.nd rfl (by first | exact .inl rfl | exact .inr rfl) (by decide))) (fun _ _ _ _ _ _ _ tkB => ppts_nil) (fun _ _ _ _ _ _ _ tkB => (pp_call (fm__law_heard T) solid__law_heard (hr.mono (by decide)) tkB rfl (ppa_cons pp_int (ppa_cons pp_int (ppa_cons (pp_pv 0) (ppa_cons (pp_pv 9) ppa_nil))))))))))
    (ppss_cons (pps_set (i := 4) sc__law_refused_right.nd rfl (by first | exact .inl rfl | exact .inr rfl) (pp_op op_addP (pp_op op_addP (pp_pv 4) (PPN.pp (ppn_lcE (own := [("own", 9)]) rfl rfl (takes_of rfl rfl rfl rfl) rfl sc__law_refused_right.nd (ppi_seq (pp_tup (ppa_cons (pp_tup (ppa_cons (pp_tup (ppa_cons pp_int (ppa_cons pp_int ppa_nil))) (ppa_cons (pp_tup (ppa_cons pp_int ppa_nil)) ppa_nil))) (ppa_cons (pp_tup ppa_nil) (ppa_cons pp_non ppa_nil))))) (blk_of rfl (by rfl)) (fun _ _ _ _ _ _ => (ppgw_name (i := 9) sc__law_refused_right.nd rfl (by first | exact .inl rfl | exact .inr rfl) (by decide))) (fun _ _ _ _ _ _ _ tkB => ppts_nil) (fun _ _ _ _ _ _ _ tkB => (pp_call (fm__law_heard T) solid__law_heard (hr.mono (by decide)) tkB rfl (ppa_cons pp_int (ppa_cons pp_int (ppa_cons (pp_pv 0) (ppa_cons (pp_pv 9) ppa_nil))))))))) (PPN.pp (ppn_lst (ppa_cons (pp_call (fm__law_heard T) solid__law_heard (hr.mono (by decide)) (takes_of rfl rfl rfl rfl) rfl (ppa_cons pp_int (ppa_cons pp_int (ppa_cons (pp_pv 0) (ppa_cons (pp_tup (ppa_cons (pp_tup (ppa_cons pp_int (ppa_cons pp_int ppa_nil))) (ppa_cons (pp_tup (ppa_cons pp_int ppa_nil)) ppa_nil))) ppa_nil))))) (ppa_cons (pp_call (fm__law_heard T) solid__law_heard (hr.mono (by decide)) (takes_of rfl rfl rfl rfl) rfl (ppa_cons pp_int (ppa_cons pp_int (ppa_cons (pp_pv 0) (ppa_cons (pp_tup (ppa_cons (pp_tup (ppa_cons pp_int ppa_nil)) ppa_nil)) ppa_nil))))) ppa_nil))))))
    (ppss_cons (pps_for (passes_of rfl) rfl (ppi_seq (pp_tup (ppa_cons pp_int (ppa_cons pp_int (ppa_cons pp_int (ppa_cons pp_int ppa_nil)))))) (ppg_name (i := 7) sc__law_refused_right.nd rfl (by first | exact .inl rfl | exact .inr rfl)) (ppss_one (pps_set (i := 4) sc__law_refused_right.nd rfl (by first | exact .inl rfl | exact .inr rfl) (pp_op op_addP (pp_op op_addP (pp_pv 4) (PPN.pp (ppn_lcE (own := [("own", 9)]) rfl rfl (takes_of rfl rfl rfl rfl) rfl sc__law_refused_right.nd (ppi_seq (pp_tup (ppa_cons (pp_rev (pp_pv 6)) (ppa_cons (pp_slice (pp_pv 6) (ppo_some pp_int) ppo_none) (ppa_cons (pp_slice (pp_pv 6) ppo_none (ppo_some pp_int)) (ppa_cons pp_non ppa_nil)))))) (blk_of rfl (by rfl)) (fun _ _ _ _ _ _ => (ppgw_name (i := 9) sc__law_refused_right.nd rfl (by first | exact .inl rfl | exact .inr rfl) (by decide))) (fun _ _ _ _ _ _ _ tkB => ppts_nil) (fun _ _ _ _ _ _ _ tkB => (pp_call (fm__law_heard T) solid__law_heard (hr.mono (by decide)) tkB rfl (ppa_cons (pp_pv 7) (ppa_cons pp_int (ppa_cons (pp_pv 9) (ppa_cons (pp_tup (ppa_cons pp_int (ppa_cons pp_int (ppa_cons pp_int ppa_nil)))) ppa_nil))))))))) (PPN.pp (ppn_lst (ppa_cons (pp_call (fm__law_heard T) solid__law_heard (hr.mono (by decide)) (takes_of rfl rfl rfl rfl) rfl (ppa_cons (pp_pv 7) (ppa_cons pp_int (ppa_cons (pp_tup (ppa_cons (pp_tup ppa_nil) ppa_nil)) (ppa_cons (pp_tup (ppa_cons pp_int (ppa_cons pp_int (ppa_cons pp_int ppa_nil)))) ppa_nil))))) ppa_nil)))))))
    (ppss_cons (pps_set (i := 4) sc__law_refused_right.nd rfl (by first | exact .inl rfl | exact .inr rfl) (pp_op op_addP (pp_op op_addP (pp_op op_addP (pp_op op_addP (pp_pv 4) (PPN.pp (ppn_lcE (own := [("own", 9)]) rfl rfl (takes_of rfl rfl rfl rfl) rfl sc__law_refused_right.nd (ppi_seq (pp_tup (ppa_cons (pp_tup (ppa_cons pp_int (ppa_cons pp_int ppa_nil))) (ppa_cons pp_non ppa_nil)))) (blk_of rfl (by rfl)) (fun _ _ _ _ _ _ => (ppgw_name (i := 9) sc__law_refused_right.nd rfl (by first | exact .inl rfl | exact .inr rfl) (by decide))) (fun _ _ _ _ _ _ _ tkB => ppts_nil) (fun _ _ _ _ _ _ _ tkB => (pp_call (fm__law_heard T) solid__law_heard (hr.mono (by decide)) tkB rfl (ppa_cons pp_int (ppa_cons pp_int (ppa_cons (pp_pv 6) (ppa_cons (pp_pv 9) ppa_nil))))))))) (PPN.pp (ppn_lcE (own := [("own", 9)]) rfl rfl (takes_of rfl rfl rfl rfl) rfl sc__law_refused_right.nd (ppi_seq (pp_tup (ppa_cons (pp_slice (pp_pv 6) (ppo_some pp_int) ppo_none) (ppa_cons pp_non ppa_nil)))) (blk_of rfl (by rfl)) (fun _ _ _ _ _ _ => (ppgw_name (i := 9) sc__law_refused_right.nd rfl (by first | exact .inl rfl | exact .inr rfl) (by decide))) (fun _ _ _ _ _ _ _ tkB => ppts_nil) (fun _ _ _ _ _ _ _ tkB => (pp_call (fm__law_heard T) solid__law_heard (hr.mono (by decide)) tkB rfl (ppa_cons pp_int (ppa_cons pp_int (ppa_cons (pp_pv 6) (ppa_cons (pp_pv 9) ppa_nil))))))))) (PPN.pp (ppn_lcE (own := [("own", 9)]) rfl rfl (takes_of rfl rfl rfl rfl) rfl sc__law_refused_right.nd (ppi_seq (pp_tup (ppa_cons (pp_tup (ppa_cons pp_int (ppa_cons pp_int ppa_nil))) (ppa_cons (pp_tup (ppa_cons pp_int (ppa_cons pp_int (ppa_cons pp_int ppa_nil)))) (ppa_cons pp_non ppa_nil))))) (blk_of rfl (by rfl)) (fun _ _ _ _ _ _ => (ppgw_name (i := 9) sc__law_refused_right.nd rfl (by first | exact .inl rfl | exact .inr rfl) (by decide))) (fun _ _ _ _ _ _ _ tkB => ppts_nil) (fun _ _ _ _ _ _ _ tkB => (pp_call (fm__law_heard T) solid__law_heard (hr.mono (by decide)) tkB rfl (ppa_cons pp_int (ppa_cons pp_int (ppa_cons pp_non (ppa_cons (pp_pv 9) ppa_nil))))))))) (PPN.pp (ppn_lst (ppa_cons (pp_call (fm__law_heard T) solid__law_heard (hr.mono (by decide)) (takes_of rfl rfl rfl rfl) rfl (ppa_cons pp_int (ppa_cons pp_int (ppa_cons pp_non (ppa_cons (pp_tup ppa_nil) ppa_nil))))) ppa_nil)))))
    (ppss_one (pps_ret (pp_call (fm__law_same T 14) (solid__law_same 14) (hr.mono (by decide)) (takes_of rfl rfl rfl rfl) rfl (ppa_cons (pp_pv 4) (ppa_cons (pp_op op_addP (pp_pv 5) (pp_op op_mulP2 (PPN.pp (ppn_lst (ppa_cons (PPN.pp (ppn_lst (ppa_cons pp_str (ppa_cons pp_bl ppa_nil)))) ppa_nil))) (pp_op op_subP (pp_b1 call_lenP rfl T.z_len rfl (pp_pv 4)) pp_int))) ppa_nil)))))))))))))
/-! _law_things_right -/
theorem sc__law_things_right : FnScope ["first", "ring", "blank", "never", "things", "got", "due", "wide", "own"] [] (defScope (topS 63)) := ⟨rfl, rfl, rfl, by decide +kernel, rfl, by decide +kernel, by decide +kernel⟩
def b__law_things_right : CS := (sSeq (sAsg (gT (gsC (gN 0) (gsC (gN 1) (gsC (gN 2) (gsC (gN 3) gsN))))) (cCall0 m__law_named))
    (sSeq (sSet 4 (cN (nLst (aC (c2 ixD (cV 0) (cC (.int 0))) (aC (c2 ixD (cV 2) (cC (.int 0))) (aC (c2 ixD (cV 3) (cC (.int 0))) (aC (cTup (aC (cTup (aC (cC (.int 0)) (aC (cC (.int 1)) aN))) (aC (cTup (aC (cC (.int 2)) aN)) aN))) (aC (cTup (aC (cTup aN) (aC (cTup aN) aN))) (aC (cTup (aC (cTup (aC (cC (.int 1)) (aC (cC (.int 0)) aN))) (aC (cTup (aC (cC (.int 0)) aN)) aN))) (aC (cTup (aC (cTup (aC (cC (.int 0)) (aC (cC (.int 3)) aN))) (aC (cTup (aC (cC (.int 0)) aN)) aN))) (aC (cN (nLst (aC (cTup (aC (cC (.int 0)) (aC (cC (.int 1)) aN))) (aC (cTup (aC (cC (.int 0)) aN)) aN)))) (aC (cTup (aC (cTup (aC (cC (.int 0)) (aC (cC (.int 1)) aN))) aN)) (aC (cTup (aC (cTup (aC (cC (.int 0)) (aC (cC (.int 1)) aN))) (aC (cTup (aC (cC (.int 0)) aN)) (aC (cC (.int 1)) aN)))) (aC (cC .non) (aC (cTup (aC (cTup (aC (cC (.int 0)) (aC (cC (.bl true)) aN))) (aC (cTup (aC (cC (.int 0)) aN)) aN))) (aC (cTup (aC (cTup (aC (cC (.int 0)) (aC (cC (.int 1)) aN))) (aC (cN (nLst (aC (cC (.int 0)) aN))) aN))) aN))))))))))))))))
    (sSeq (sSet 5 (cN (nLst (aC (cN (nLcE (iA (cV 4)) [8] (gN 8) tYesC (cCall m_is_fact (aC (cC (.int 3)) (aC (cV 8) aN))))) (aC (cCallK m_is_fact [1, 0] aN (aC (cTup (aC (cTup (aC (cC (.int 0)) aN)) (aC (cTup (aC (cC (.int 0)) aN)) aN))) (aC (cC (.int 1)) aN))) (aC (cN (nLcE (iA (cTup (aC (cTup aN) (aC (cV 0) (aC (cV 1) (aC (c2 ixD (cV 0) (cC (.int 0))) (aC (cN (nList (cV 0))) (aC (cC .non) (aC (cTup (aC (cTup (aC (cTup (aC (cC (.int 0)) (aC (cC (.int 1)) aN))) (aC (cTup (aC (cC (.int 2)) aN)) aN))) aN)) aN))))))))) [8] (gN 8) tYesC (cCall m_are_facts (aC (cC (.int 3)) (aC (cV 8) aN))))) (aC (cCallK m_are_facts [1, 0] aN (aC (cTup aN) (aC (cC (.int 1)) aN))) aN)))))))
    (sSeq (sSet 6 (cN (nLst (aC (c2 addD (c2 mulD2 (cN (nLst (aC (cC (.bl true)) aN))) (cC (.int 3))) (c2 mulD2 (cN (nLst (aC (cC (.bl false)) aN))) (cC (.int 10)))) (aC (cC (.bl true)) (aC (cN (nLst (aC (cC (.bl true)) (aC (cC (.bl true)) (aC (cC (.bl true)) (aC (cC (.bl false)) (aC (cC (.bl false)) (aC (cC (.bl false)) (aC (cC (.bl false)) aN))))))))) (aC (cC (.bl true)) aN)))))))
    (sSeq (sSet 7 (cTup (aC (cTup aN) (aC (cTup (aC (cC (.int 0)) aN)) (aC (cTup (aC (cC (.int 2)) aN)) (aC (cTup (aC (cC (.int 0)) (aC (cC (.int 1)) aN))) (aC (cTup (aC (cC (.int 0)) (aC (cC (.int 2)) aN))) (aC (cTup (aC (cC (.int 0)) (aC (cC (.int 1)) (aC (cC (.int 2)) aN)))) aN))))))))
    (sSeq (sSet 4 (cN (nLst (aC (cV 7) (aC (cTup (aC (cTup aN) (aC (cTup (aC (cC (.int 0)) (aC (cC (.int 1)) (aC (cC (.int 2)) aN)))) aN))) (aC (cTup (aC (cTup aN) (aC (cTup (aC (cC (.int 0)) aN)) aN))) (aC (cTup (aC (cTup (aC (cC (.int 0)) (aC (cC (.int 1)) (aC (cC (.int 2)) aN)))) aN)) (aC (c1 revD (cV 7)) (aC (cN (nList (cV 7))) (aC (c2 addD (cV 7) (cTup (aC (cTup (aC (cC (.int 1)) aN)) aN))) (aC (cTup (aC (cTup aN) (aC (cTup (aC (cC (.int 0)) (aC (cC (.int 1)) aN))) (aC (cTup (aC (cC (.int 0)) aN)) (aC (cTup (aC (cC (.int 0)) (aC (cC (.int 1)) (aC (cC (.int 2)) aN)))) aN))))) (aC (cC .non) (aC (cTup (aC (cTup aN) (aC (cTup (aC (cC (.int 1)) (aC (cC (.int 0)) aN))) (aC (cTup (aC (cC (.int 0)) (aC (cC (.int 1)) (aC (cC (.int 2)) aN)))) aN)))) (aC (cTup (aC (cTup aN) (aC (cTup (aC (cC (.int 3)) aN)) (aC (cTup (aC (cC (.int 0)) (aC (cC (.int 1)) (aC (cC (.int 2)) aN)))) aN)))) aN))))))))))))))
    (sSeq (sSet 5 (c2 addD (cV 5) (cN (nLst (aC (cN (nLcE (iA (cV 4)) [8] (gN 8) tYesC (cCall m_is_family (aC (cC (.int 3)) (aC (cV 8) aN))))) (aC (cCallK m_is_family [1, 0] aN (aC (cTup (aC (cTup aN) (aC (cTup (aC (cC (.int 0)) aN)) aN))) (aC (cC (.int 1)) aN))) (aC (cCall m_let_lots (aC (cC (.int 3)) (aC (cV 0) aN))) (aC (cCallK m_let_lots [1, 0] aN (aC (cN (nLst aN)) (aC (cC (.int 2)) aN))) (aC (cCall m_let_lots (aC (cC (.int 2)) (aC (cV 3) aN))) (aC (cCallK m_let_lots [1, 0] aN (aC (cCall (m__law_lists 14) (aC (cV 1) aN)) (aC (cC (.int 3)) aN))) aN))))))))))
    (sSeq (sSet 6 (c2 addD (cV 6) (cN (nLst (aC (c2 addD (cN (nLst (aC (cC (.bl true)) (aC (cC (.bl true)) aN)))) (c2 mulD2 (cN (nLst (aC (cC (.bl false)) aN))) (cC (.int 9)))) (aC (cC (.bl true)) (aC (cV 7) (aC (cTup (aC (cTup aN) (aC (cTup (aC (cC (.int 0)) aN)) (aC (cTup (aC (cC (.int 1)) aN)) (aC (cTup (aC (cC (.int 0)) (aC (cC (.int 1)) aN))) aN))))) (aC (cTup (aC (cTup aN) aN)) (aC (cTup (aC (cTup aN) (aC (cTup (aC (cC (.int 0)) (aC (cC (.int 1)) (aC (cC (.int 2)) aN)))) aN))) aN))))))))))
    (sSeq (sSet 5 (c2 addD (cV 5) (cN (nLst (aC (cCall m_lets_lot (aC (cC (.int 3)) (aC (cV 0) (aC (cTup (aC (cC (.int 1)) (aC (cC (.int 2)) aN))) aN)))) (aC (cCall m_lets_lot (aC (cC (.int 3)) (aC (cV 0) (aC (cTup aN) aN)))) (aC (cCallK m_lets_lot [2, 1, 0] aN (aC (cN (nLst (aC (cC (.int 0)) (aC (cC (.int 1)) aN)))) (aC (cCall (m__law_lists 14) (aC (cV 0) aN)) (aC (cC (.int 3)) aN)))) (aC (cCall m_lets_lot (aC (cC (.int 2)) (aC (cV 3) (aC (cTup (aC (cC (.int 0)) aN)) aN)))) (aC (cCall m_is_let (aC (cC (.int 3)) (aC (cV 7) (aC (cTup (aC (cC (.int 0)) (aC (cC (.int 2)) (aC (cC (.int 1)) aN)))) aN)))) (aC (cCall m_is_let (aC (cC (.int 3)) (aC (cV 7) (aC (cTup (aC (cC (.int 1)) (aC (cC (.int 0)) (aC (cC (.int 2)) aN)))) aN)))) (aC (cCallK m_is_let [2, 1, 0] aN (aC (cN (nLst (aC (cC (.int 2)) (aC (cC (.int 0)) (aC (cC (.int 1)) aN))))) (aC (cCall (m__law_lists 14) (aC (cV 7) aN)) (aC (cC (.int 3)) aN)))) aN)))))))))))
    (sSeq (sSet 6 (c2 addD (cV 6) (cN (nLst (aC (cC (.bl false)) (aC (cC (.bl true)) (aC (cC (.bl true)) (aC (cC (.bl false)) (aC (cC (.bl true)) (aC (cC (.bl false)) (aC (cC (.bl true)) aN)))))))))))
    (sSeq (sSet 5 (c2 addD (cV 5) (cN (nLst (aC (cCall m_keeps_facts (aC (cC (.int 3)) (aC (cV 0) (aC (cTup (aC (cC (.int 2)) (aC (cC (.int 0)) (aC (cC (.int 1)) aN)))) aN)))) (aC (cCall m_keeps_facts (aC (cC (.int 3)) (aC (cV 0) (aC (cTup (aC (cC (.int 1)) (aC (cC (.int 0)) (aC (cC (.int 2)) aN)))) aN)))) (aC (cCallK m_keeps_facts [2, 1, 0] aN (aC (cN (nLst (aC (cC (.int 0)) aN))) (aC (cN (nLst aN)) (aC (cC (.int 1)) aN)))) (aC (cCall m_keeps_facts (aC (cC (.int 2)) (aC (cV 3) (aC (cTup (aC (cC (.int 0)) (aC (cC (.int 1)) aN))) aN)))) (aC (cCall m_laid (aC (cC (.int 3)) (aC (cV 0) aN))) (aC (cCall m_laid (aC (cC (.int 3)) (aC (cV 1) aN))) (aC (cCallK m_laid [1, 0] aN (aC (cCall (m__law_lists 14) (aC (cTup (aC (cTup (aC (cTup (aC (cC (.int 0)) (aC (cC (.int 1)) aN))) (aC (cTup (aC (cC (.int 1)) aN)) aN))) aN)) aN)) (aC (cC (.int 3)) aN))) (aC (cCall m_laid (aC (cC (.int 2)) (aC (cV 3) aN))) (aC (cCall m_laid (aC (cC (.int 3)) (aC (cTup (aC (cTup (aC (cTup (aC (cC (.int 0)) (aC (cC (.int 1)) (aC (cC (.int 2)) aN)))) (aC (cTup aN) aN))) aN)) aN))) (aC (cCall m_laid (aC (cC (.int 3)) (aC (cTup (aC (cTup (aC (cTup (aC (cC (.int 0)) (aC (cC (.int 1)) aN))) (aC (cTup aN) aN))) aN)) aN))) aN))))))))))))))
    (sSeq (sSet 6 (c2 addD (cV 6) (cN (nLst (aC (cC (.bl true)) (aC (cC (.bl false)) (aC (cC (.bl true)) (aC (cC (.bl false)) (aC (cTup (aC (cC (.int 0)) (aC (cC (.int 1)) (aC (cC (.int 2)) aN)))) (aC (cTup aN) (aC (cTup (aC (cC (.int 1)) (aC (cC (.int 0)) (aC (cC (.int 2)) aN)))) (aC (cTup aN) (aC (cTup aN) (aC (cTup (aC (cC (.int 2)) aN)) aN))))))))))))))
    (sRet (cCall (m__law_same 14) (aC (cV 5) (aC (cV 6) aN))))))))))))))))
def m__law_things_right : List D → Res D := cDef 0 9 b__law_things_right
theorem solid__law_things_right : Solid m__law_things_right := solid_def _ _ _
theorem fm__law_things_right (T : Tx0 ec0 ec1 K mg) : Fm P w K mg base (clsOf ec0 ec1) 19 "_law_things_right" (topS 63) [] m__law_things_right := by
  obtain ⟨f, fd, h1, h2, h3⟩ := T.f__law_things_right
  exact fm_def (k := 18) h2 sc__law_things_right h1 h3 rfl rfl fun cdv A outer s H E Fz hr => (ppss_cons (pps_asg (pp_call0 (fm__law_named T) solid__law_named (hr.mono (by decide)) (takes_of rfl rfl rfl rfl) rfl) (ppg_tup rfl (ppgs_cons (ppg_name (i := 0) sc__law_things_right.nd rfl (by first | exact .inl rfl | exact .inr rfl)) (ppgs_cons (ppg_name (i := 1) sc__law_things_right.nd rfl (by first | exact .inl rfl | exact .inr rfl)) (ppgs_cons (ppg_name (i := 2) sc__law_things_right.nd rfl (by first | exact .inl rfl | exact .inr rfl)) (ppgs_cons (ppg_name (i := 3) sc__law_things_right.nd rfl (by first | exact .inl rfl | exact .inr rfl)) ppgs_nil))))))
    (ppss_cons (pps_set (i := 4) sc__law_things_right.nd rfl (by first | exact .inl rfl | exact .inr rfl) (PPN.pp (ppn_lst (ppa_cons (pp_ix (pp_pv 0) pp_int) (ppa_cons (pp_ix (pp_pv 2) pp_int) (ppa_cons (pp_ix (pp_pv 3) pp_int) (ppa_cons (pp_tup (ppa_cons (pp_tup (ppa_cons pp_int (ppa_cons pp_int ppa_nil))) (ppa_cons (pp_tup (ppa_cons pp_int ppa_nil)) ppa_nil))) (ppa_cons (pp_tup (ppa_cons (pp_tup ppa_nil) (ppa_cons (pp_tup ppa_nil) ppa_nil))) (ppa_cons (pp_tup (ppa_cons (pp_tup (ppa_cons pp_int (ppa_cons pp_int ppa_nil))) (ppa_cons (pp_tup (ppa_cons pp_int ppa_nil)) ppa_nil))) (ppa_cons (pp_tup (ppa_cons (pp_tup (ppa_cons pp_int (ppa_cons pp_int ppa_nil))) (ppa_cons (pp_tup (ppa_cons pp_int ppa_nil)) ppa_nil))) (ppa_cons (PPN.pp (ppn_lst (ppa_cons (pp_tup (ppa_cons pp_int (ppa_cons pp_int ppa_nil))) (ppa_cons (pp_tup (ppa_cons pp_int ppa_nil)) ppa_nil)))) (ppa_cons (pp_tup (ppa_cons (pp_tup (ppa_cons pp_int (ppa_cons pp_int ppa_nil))) ppa_nil)) (ppa_cons (pp_tup (ppa_cons (pp_tup (ppa_cons pp_int (ppa_cons pp_int ppa_nil))) (ppa_cons (pp_tup (ppa_cons pp_int ppa_nil)) (ppa_cons pp_int ppa_nil)))) (ppa_cons pp_non (ppa_cons (pp_tup (ppa_cons (pp_tup (ppa_cons pp_int (ppa_cons pp_bl ppa_nil))) (ppa_cons (pp_tup (ppa_cons pp_int ppa_nil)) ppa_nil))) (ppa_cons (pp_tup (ppa_cons (pp_tup (ppa_cons pp_int (ppa_cons pp_int ppa_nil))) (ppa_cons (PPN.pp (ppn_lst (ppa_cons pp_int ppa_nil))) ppa_nil))) ppa_nil))))))))))))))))
    (ppss_cons (pps_set (i := 5) sc__law_things_right.nd rfl (by first | exact .inl rfl | exact .inr rfl) (PPN.pp (ppn_lst (ppa_cons (PPN.pp (ppn_lcE (own := [("own", 8)]) rfl rfl (takes_of rfl rfl rfl rfl) rfl sc__law_things_right.nd (ppi_seq (pp_pv 4)) (blk_of rfl (by rfl)) (fun _ _ _ _ _ _ => (ppgw_name (i := 8) sc__law_things_right.nd rfl (by first | exact .inl rfl | exact .inr rfl) (by decide))) (fun _ _ _ _ _ _ _ tkB => ppts_nil) (fun _ _ _ _ _ _ _ tkB => (pp_call (fm_is_fact T) solid_is_fact (hr.mono (by decide)) tkB rfl (ppa_cons pp_int (ppa_cons (pp_pv 8) ppa_nil)))))) (ppa_cons (pp_callK0 (fm_is_fact T) solid_is_fact (hr.mono (by decide)) (takes_of rfl rfl rfl rfl) rfl (ppk_cons (pp_tup (ppa_cons (pp_tup (ppa_cons pp_int ppa_nil)) (ppa_cons (pp_tup (ppa_cons pp_int ppa_nil)) ppa_nil))) (ppk_cons pp_int ppk_nil)) (fun f fd F => kb_of F (ix := [1, 0]) (ks := ["thing", "n"]) (na := 0) fun _ _ _ _ _ _ _ us ws h1 h2 => match us, ws, h1, h2 with | [], [_, _], _, _ => .of_eq rfl) (alenS (alenS alen0))) (ppa_cons (PPN.pp (ppn_lcE (own := [("own", 8)]) rfl rfl (takes_of rfl rfl rfl rfl) rfl sc__law_things_right.nd (ppi_seq (pp_tup (ppa_cons (pp_tup ppa_nil) (ppa_cons (pp_pv 0) (ppa_cons (pp_pv 1) (ppa_cons (pp_ix (pp_pv 0) pp_int) (ppa_cons (PPN.pp (ppn_list rfl T.z_list (pp_pv 0))) (ppa_cons pp_non (ppa_cons (pp_tup (ppa_cons (pp_tup (ppa_cons (pp_tup (ppa_cons pp_int (ppa_cons pp_int ppa_nil))) (ppa_cons (pp_tup (ppa_cons pp_int ppa_nil)) ppa_nil))) ppa_nil)) ppa_nil))))))))) (blk_of rfl (by rfl)) (fun _ _ _ _ _ _ => (ppgw_name (i := 8) sc__law_things_right.nd rfl (by first | exact .inl rfl | exact .inr rfl) (by decide))) (fun _ _ _ _ _ _ _ tkB => ppts_nil) (fun _ _ _ _ _ _ _ tkB => (pp_call (fm_are_facts T) solid_are_facts (hr.mono (by decide)) tkB rfl (ppa_cons pp_int (ppa_cons (pp_pv 8) ppa_nil)))))) (ppa_cons (pp_callK0 (fm_are_facts T) solid_are_facts (hr.mono (by decide)) (takes_of rfl rfl rfl rfl) rfl (ppk_cons (pp_tup ppa_nil) (ppk_cons pp_int ppk_nil)) (fun f fd F => kb_of F (ix := [1, 0]) (ks := ["thing", "n"]) (na := 0) fun _ _ _ _ _ _ _ us ws h1 h2 => match us, ws, h1, h2 with | [], [_, _], _, _ => .of_eq rfl) (alenS (alenS alen0))) ppa_nil)))))))
    (ppss_cons (pps_set (i := 6) sc__law_things_right.nd rfl (by first | exact .inl rfl | exact .inr rfl) (PPN.pp (ppn_lst (ppa_cons (pp_op op_addP (pp_op op_mulP2 (PPN.pp (ppn_lst (ppa_cons pp_bl ppa_nil))) pp_int) (pp_op op_mulP2 (PPN.pp (ppn_lst (ppa_cons pp_bl ppa_nil))) pp_int)) (ppa_cons pp_bl (ppa_cons (PPN.pp (ppn_lst (ppa_cons pp_bl (ppa_cons pp_bl (ppa_cons pp_bl (ppa_cons pp_bl (ppa_cons pp_bl (ppa_cons pp_bl (ppa_cons pp_bl ppa_nil))))))))) (ppa_cons pp_bl ppa_nil)))))))
    (ppss_cons (pps_set (i := 7) sc__law_things_right.nd rfl (by first | exact .inl rfl | exact .inr rfl) (pp_tup (ppa_cons (pp_tup ppa_nil) (ppa_cons (pp_tup (ppa_cons pp_int ppa_nil)) (ppa_cons (pp_tup (ppa_cons pp_int ppa_nil)) (ppa_cons (pp_tup (ppa_cons pp_int (ppa_cons pp_int ppa_nil))) (ppa_cons (pp_tup (ppa_cons pp_int (ppa_cons pp_int ppa_nil))) (ppa_cons (pp_tup (ppa_cons pp_int (ppa_cons pp_int (ppa_cons pp_int ppa_nil)))) ppa_nil))))))))
    (ppss_cons (pps_set (i := 4) sc__law_things_right.nd rfl (by first | exact .inl rfl | exact .inr rfl) (PPN.pp (ppn_lst (ppa_cons (pp_pv 7) (ppa_cons (pp_tup (ppa_cons (pp_tup ppa_nil) (ppa_cons (pp_tup (ppa_cons pp_int (ppa_cons pp_int (ppa_cons pp_int ppa_nil)))) ppa_nil))) (ppa_cons (pp_tup (ppa_cons (pp_tup ppa_nil) (ppa_cons (pp_tup (ppa_cons pp_int ppa_nil)) ppa_nil))) (ppa_cons (pp_tup (ppa_cons (pp_tup (ppa_cons pp_int (ppa_cons pp_int (ppa_cons pp_int ppa_nil)))) ppa_nil)) (ppa_cons (pp_rev (pp_pv 7)) (ppa_cons (PPN.pp (ppn_list rfl T.z_list (pp_pv 7))) (ppa_cons (pp_op op_addP (pp_pv 7) (pp_tup (ppa_cons (pp_tup (ppa_cons pp_int ppa_nil)) ppa_nil))) (ppa_cons (pp_tup (ppa_cons (pp_tup ppa_nil) (ppa_cons (pp_tup (ppa_cons pp_int (ppa_cons pp_int ppa_nil))) (ppa_cons (pp_tup (ppa_cons pp_int ppa_nil)) (ppa_cons (pp_tup (ppa_cons pp_int (ppa_cons pp_int (ppa_cons pp_int ppa_nil)))) ppa_nil))))) (ppa_cons pp_non (ppa_cons (pp_tup (ppa_cons (pp_tup ppa_nil) (ppa_cons (pp_tup (ppa_cons pp_int (ppa_cons pp_int ppa_nil))) (ppa_cons (pp_tup (ppa_cons pp_int (ppa_cons pp_int (ppa_cons pp_int ppa_nil)))) ppa_nil)))) (ppa_cons (pp_tup (ppa_cons (pp_tup ppa_nil) (ppa_cons (pp_tup (ppa_cons pp_int ppa_nil)) (ppa_cons (pp_tup (ppa_cons pp_int (ppa_cons pp_int (ppa_cons pp_int ppa_nil)))) ppa_nil)))) ppa_nil))))))))))))))
    (ppss_cons (pps_set (i := 5) sc__law_things_right.nd rfl (by first | exact .inl rfl | exact .inr rfl) (pp_op op_addP (pp_pv 5) (PPN.pp (ppn_lst (ppa_cons (PPN.pp (ppn_lcE (own := [("own", 8)]) rfl rfl (takes_of rfl rfl rfl rfl) rfl sc__law_things_right.nd (ppi_seq (pp_pv 4)) (blk_of rfl (by rfl)) (fun _ _ _ _ _ _ => (ppgw_name (i := 8) sc__law_things_right.nd rfl (by first | exact .inl rfl | exact .inr rfl) (by decide))) (fun _ _ _ _ _ _ _ tkB => ppts_nil) (fun _ _ _ _ _ _ _ tkB => (pp_call (fm_is_family T) solid_is_family (hr.mono (by decide)) tkB rfl (ppa_cons pp_int (ppa_cons (pp_pv 8) ppa_nil)))))) (ppa_cons (pp_callK0 (fm_is_family T) solid_is_family (hr.mono (by decide)) (takes_of rfl rfl rfl rfl) rfl (ppk_cons (pp_tup (ppa_cons (pp_tup ppa_nil) (ppa_cons (pp_tup (ppa_cons pp_int ppa_nil)) ppa_nil))) (ppk_cons pp_int ppk_nil)) (fun f fd F => kb_of F (ix := [1, 0]) (ks := ["thing", "n"]) (na := 0) fun _ _ _ _ _ _ _ us ws h1 h2 => match us, ws, h1, h2 with | [], [_, _], _, _ => .of_eq rfl) (alenS (alenS alen0))) (ppa_cons (pp_call (fm_let_lots T) solid_let_lots (hr.mono (by decide)) (takes_of rfl rfl rfl rfl) rfl (ppa_cons pp_int (ppa_cons (pp_pv 0) ppa_nil))) (ppa_cons (pp_callK0 (fm_let_lots T) solid_let_lots (hr.mono (by decide)) (takes_of rfl rfl rfl rfl) rfl (ppk_cons (PPN.pp (ppn_lst ppa_nil)) (ppk_cons pp_int ppk_nil)) (fun f fd F => kb_of F (ix := [1, 0]) (ks := ["facts", "n"]) (na := 0) fun _ _ _ _ _ _ _ us ws h1 h2 => match us, ws, h1, h2 with | [], [_, _], _, _ => .of_eq rfl) (alenS (alenS alen0))) (ppa_cons (pp_call (fm_let_lots T) solid_let_lots (hr.mono (by decide)) (takes_of rfl rfl rfl rfl) rfl (ppa_cons pp_int (ppa_cons (pp_pv 3) ppa_nil))) (ppa_cons (pp_callK0 (fm_let_lots T) solid_let_lots (hr.mono (by decide)) (takes_of rfl rfl rfl rfl) rfl (ppk_cons (pp_call (fm__law_lists T 14) (solid__law_lists 14) (hr.mono (by decide)) (takes_of rfl rfl rfl rfl) rfl (ppa_cons (pp_pv 1) ppa_nil)) (ppk_cons pp_int ppk_nil)) (fun f fd F => kb_of F (ix := [1, 0]) (ks := ["facts", "n"]) (na := 0) fun _ _ _ _ _ _ _ us ws h1 h2 => match us, ws, h1, h2 with | [], [_, _], _, _ => .of_eq rfl) (alenS (alenS alen0))) ppa_nil))))))))))
    (ppss_cons (pps_set (i := 6) sc__law_things_right.nd rfl (by first | exact .inl rfl | exact .inr rfl) (pp_op op_addP (pp_pv 6) (PPN.pp (ppn_lst (ppa_cons (pp_op op_addP (PPN.pp (ppn_lst (ppa_cons pp_bl (ppa_cons pp_bl ppa_nil)))) (pp_op op_mulP2 (PPN.pp (ppn_lst (ppa_cons pp_bl ppa_nil))) pp_int)) (ppa_cons pp_bl (ppa_cons (pp_pv 7) (ppa_cons (pp_tup (ppa_cons (pp_tup ppa_nil) (ppa_cons (pp_tup (ppa_cons pp_int ppa_nil)) (ppa_cons (pp_tup (ppa_cons pp_int ppa_nil)) (ppa_cons (pp_tup (ppa_cons pp_int (ppa_cons pp_int ppa_nil))) ppa_nil))))) (ppa_cons (pp_tup (ppa_cons (pp_tup ppa_nil) ppa_nil)) (ppa_cons (pp_tup (ppa_cons (pp_tup ppa_nil) (ppa_cons (pp_tup (ppa_cons pp_int (ppa_cons pp_int (ppa_cons pp_int ppa_nil)))) ppa_nil))) ppa_nil))))))))))
    (ppss_cons (pps_set (i := 5) sc__law_things_right.nd rfl (by first | exact .inl rfl | exact .inr rfl) (pp_op op_addP (pp_pv 5) (PPN.pp (ppn_lst (ppa_cons (pp_call (fm_lets_lot T) solid_lets_lot (hr.mono (by decide)) (takes_of rfl rfl rfl rfl) rfl (ppa_cons pp_int (ppa_cons (pp_pv 0) (ppa_cons (pp_tup (ppa_cons pp_int (ppa_cons pp_int ppa_nil))) ppa_nil)))) (ppa_cons (pp_call (fm_lets_lot T) solid_lets_lot (hr.mono (by decide)) (takes_of rfl rfl rfl rfl) rfl (ppa_cons pp_int (ppa_cons (pp_pv 0) (ppa_cons (pp_tup ppa_nil) ppa_nil)))) (ppa_cons (pp_callK0 (fm_lets_lot T) solid_lets_lot (hr.mono (by decide)) (takes_of rfl rfl rfl rfl) rfl (ppk_cons (PPN.pp (ppn_lst (ppa_cons pp_int (ppa_cons pp_int ppa_nil)))) (ppk_cons (pp_call (fm__law_lists T 14) (solid__law_lists 14) (hr.mono (by decide)) (takes_of rfl rfl rfl rfl) rfl (ppa_cons (pp_pv 0) ppa_nil)) (ppk_cons pp_int ppk_nil))) (fun f fd F => kb_of F (ix := [2, 1, 0]) (ks := ["lot", "facts", "n"]) (na := 0) fun _ _ _ _ _ _ _ us ws h1 h2 => match us, ws, h1, h2 with | [], [_, _, _], _, _ => .of_eq rfl) (alenS (alenS (alenS alen0)))) (ppa_cons (pp_call (fm_lets_lot T) solid_lets_lot (hr.mono (by decide)) (takes_of rfl rfl rfl rfl) rfl (ppa_cons pp_int (ppa_cons (pp_pv 3) (ppa_cons (pp_tup (ppa_cons pp_int ppa_nil)) ppa_nil)))) (ppa_cons (pp_call (fm_is_let T) solid_is_let (hr.mono (by decide)) (takes_of rfl rfl rfl rfl) rfl (ppa_cons pp_int (ppa_cons (pp_pv 7) (ppa_cons (pp_tup (ppa_cons pp_int (ppa_cons pp_int (ppa_cons pp_int ppa_nil)))) ppa_nil)))) (ppa_cons (pp_call (fm_is_let T) solid_is_let (hr.mono (by decide)) (takes_of rfl rfl rfl rfl) rfl (ppa_cons pp_int (ppa_cons (pp_pv 7) (ppa_cons (pp_tup (ppa_cons pp_int (ppa_cons pp_int (ppa_cons pp_int ppa_nil)))) ppa_nil)))) (ppa_cons (pp_callK0 (fm_is_let T) solid_is_let (hr.mono (by decide)) (takes_of rfl rfl rfl rfl) rfl (ppk_cons (PPN.pp (ppn_lst (ppa_cons pp_int (ppa_cons pp_int (ppa_cons pp_int ppa_nil))))) (ppk_cons (pp_call (fm__law_lists T 14) (solid__law_lists 14) (hr.mono (by decide)) (takes_of rfl rfl rfl rfl) rfl (ppa_cons (pp_pv 7) ppa_nil)) (ppk_cons pp_int ppk_nil))) (fun f fd F => kb_of F (ix := [2, 1, 0]) (ks := ["order", "family", "n"]) (na := 0) fun _ _ _ _ _ _ _ us ws h1 h2 => match us, ws, h1, h2 with | [], [_, _, _], _, _ => .of_eq rfl) (alenS (alenS (alenS alen0)))) ppa_nil)))))))))))
    (ppss_cons (pps_set (i := 6) sc__law_things_right.nd rfl (by first | exact .inl rfl | exact .inr rfl) (pp_op op_addP (pp_pv 6) (PPN.pp (ppn_lst (ppa_cons pp_bl (ppa_cons pp_bl (ppa_cons pp_bl (ppa_cons pp_bl (ppa_cons pp_bl (ppa_cons pp_bl (ppa_cons pp_bl ppa_nil)))))))))))
    (ppss_cons (pps_set (i := 5) sc__law_things_right.nd rfl (by first | exact .inl rfl | exact .inr rfl) (pp_op op_addP (pp_pv 5) (PPN.pp (ppn_lst (ppa_cons (pp_call (fm_keeps_facts T) solid_keeps_facts (hr.mono (by decide)) (takes_of rfl rfl rfl rfl) rfl (ppa_cons pp_int (ppa_cons (pp_pv 0) (ppa_cons (pp_tup (ppa_cons pp_int (ppa_cons pp_int (ppa_cons pp_int ppa_nil)))) ppa_nil)))) (ppa_cons (pp_call (fm_keeps_facts T) solid_keeps_facts (hr.mono (by decide)) (takes_of rfl rfl rfl rfl) rfl (ppa_cons pp_int (ppa_cons (pp_pv 0) (ppa_cons (pp_tup (ppa_cons pp_int (ppa_cons pp_int (ppa_cons pp_int ppa_nil)))) ppa_nil)))) (ppa_cons (pp_callK0 (fm_keeps_facts T) solid_keeps_facts (hr.mono (by decide)) (takes_of rfl rfl rfl rfl) rfl (ppk_cons (PPN.pp (ppn_lst (ppa_cons pp_int ppa_nil))) (ppk_cons (PPN.pp (ppn_lst ppa_nil)) (ppk_cons pp_int ppk_nil))) (fun f fd F => kb_of F (ix := [2, 1, 0]) (ks := ["order", "facts", "n"]) (na := 0) fun _ _ _ _ _ _ _ us ws h1 h2 => match us, ws, h1, h2 with | [], [_, _, _], _, _ => .of_eq rfl) (alenS (alenS (alenS alen0)))) (ppa_cons (pp_call (fm_keeps_facts T) solid_keeps_facts (hr.mono (by decide)) (takes_of rfl rfl rfl rfl) rfl (ppa_cons pp_int (ppa_cons (pp_pv 3) (ppa_cons (pp_tup (ppa_cons pp_int (ppa_cons pp_int ppa_nil))) ppa_nil)))) (ppa_cons (pp_call (fm_laid T) solid_laid (hr.mono (by decide)) (takes_of rfl rfl rfl rfl) rfl (ppa_cons pp_int (ppa_cons (pp_pv 0) ppa_nil))) (ppa_cons (pp_call (fm_laid T) solid_laid (hr.mono (by decide)) (takes_of rfl rfl rfl rfl) rfl (ppa_cons pp_int (ppa_cons (pp_pv 1) ppa_nil))) (ppa_cons (pp_callK0 (fm_laid T) solid_laid (hr.mono (by decide)) (takes_of rfl rfl rfl rfl) rfl (ppk_cons (pp_call (fm__law_lists T 14) (solid__law_lists 14) (hr.mono (by decide)) (takes_of rfl rfl rfl rfl) rfl (ppa_cons (pp_tup (ppa_cons (pp_tup (ppa_cons (pp_tup (ppa_cons pp_int (ppa_cons pp_int ppa_nil))) (ppa_cons (pp_tup (ppa_cons pp_int ppa_nil)) ppa_nil))) ppa_nil)) ppa_nil)) (ppk_cons pp_int ppk_nil)) (fun f fd F => kb_of F (ix := [1, 0]) (ks := ["facts", "n"]) (na := 0) fun _ _ _ _ _ _ _ us ws h1 h2 => match us, ws, h1, h2 with | [], [_, _], _, _ => .of_eq rfl) (alenS (alenS alen0))) (ppa_cons (pp_call (fm_laid T) solid_laid (hr.mono (by decide)) (takes_of rfl rfl rfl rfl) rfl (ppa_cons pp_int (ppa_cons (pp_pv 3) ppa_nil))) (ppa_cons (pp_call (fm_laid T) solid_laid (hr.mono (by decide)) (takes_of rfl rfl rfl rfl) rfl (ppa_cons pp_int (ppa_cons (pp_tup (ppa_cons (pp_tup (ppa_cons (pp_tup (ppa_cons pp_int (ppa_cons pp_int (ppa_cons pp_int ppa_nil)))) (ppa_cons (pp_tup ppa_nil) ppa_nil))) ppa_nil)) ppa_nil))) (ppa_cons (pp_call (fm_laid T) solid_laid (hr.mono (by decide)) (takes_of rfl rfl rfl rfl) rfl (ppa_cons pp_int (ppa_cons (pp_tup (ppa_cons (pp_tup (ppa_cons (pp_tup (ppa_cons pp_int (ppa_cons pp_int ppa_nil))) (ppa_cons (pp_tup ppa_nil) ppa_nil))) ppa_nil)) ppa_nil))) ppa_nil))))))))))))))
    (ppss_cons (pps_set (i := 6) sc__law_things_right.nd rfl (by first | exact .inl rfl | exact .inr rfl) (pp_op op_addP (pp_pv 6) (PPN.pp (ppn_lst (ppa_cons pp_bl (ppa_cons pp_bl (ppa_cons pp_bl (ppa_cons pp_bl (ppa_cons (pp_tup (ppa_cons pp_int (ppa_cons pp_int (ppa_cons pp_int ppa_nil)))) (ppa_cons (pp_tup ppa_nil) (ppa_cons (pp_tup (ppa_cons pp_int (ppa_cons pp_int (ppa_cons pp_int ppa_nil)))) (ppa_cons (pp_tup ppa_nil) (ppa_cons (pp_tup ppa_nil) (ppa_cons (pp_tup (ppa_cons pp_int ppa_nil)) ppa_nil))))))))))))))
    (ppss_one (pps_ret (pp_call (fm__law_same T 14) (solid__law_same 14) (hr.mono (by decide)) (takes_of rfl rfl rfl rfl) rfl (ppa_cons (pp_pv 5) (ppa_cons (pp_pv 6) ppa_nil)))))))))))))))))
/-! law -/
theorem sc_law : FnScope ["script"] ["script"] (defScope (topS 68)) := ⟨rfl, rfl, rfl, by decide +kernel, rfl, by decide +kernel, by decide +kernel⟩
def b_law : CS := (sRet (cAnd (cCall0 m__law_things_right) (cAnd (cCall0 m__law_orders_right) (cAnd (cCall0 m__law_picked_right) (cCall0 m__law_refused_right)))))
theorem ok_law (T : Tx0 ec0 ec1 K mg) (hB : okT (endD (b_law (noL 1))) = true) {f : Addr} {fd : FuncData} (F : Fun K "law" "law" (topS 68) f fd) : FnOk P w K mg base (L2.CX P w) 21 f fd ["script"] (spLawM K) := fm_law (cl := (clsOf ec0 ec1)) (k := 20) F sc_law rfl (fun cdv A outer s H E Fz hr => (ppss_one (pps_ret (pp_and (pp_call0 (fm__law_things_right T) solid__law_things_right (hr.mono (by decide)) (takes_of rfl rfl rfl rfl) rfl) (pp_and (pp_call0 (fm__law_orders_right T) solid__law_orders_right (hr.mono (by decide)) (takes_of rfl rfl rfl rfl) rfl) (pp_and (pp_call0 (fm__law_picked_right T) solid__law_picked_right (hr.mono (by decide)) (takes_of rfl rfl rfl rfl) rfl) (pp_one (pp_call0 (fm__law_refused_right T) solid__law_refused_right (hr.mono (by decide)) (takes_of rfl rfl rfl rfl) rfl)))))))) hB
end
theorem law_val : okT (endD (b_law (noL 1))) = true := by decide +kernel
theorem all_mk {l : PySem.W.OpenLaw} {w : World} {K : PySem.W.Frag} {h : Heap} {mg : Str → Option Value} {fa f0 f1 f2 f3 f4 f5 f6 f7 f8 f9 f10 f11 f12 f13 f14 f15 f16 f17 f18 f19 f20 f21 f22 f23 f24 f25 f26 f27 f28 f29 f30 f31 f32 f33 f34 f35 f36 f37 f38 f39 f40 f41 f42 f43 f44 f45 f46 f47 f48 f49 f50 f51 f52 f53 f54 f55 f56 f57 f58 f59 ec0 ec1 : Addr} (X : K.In h) (G : h.Ns mainGlobals mg) (hfa : mg "law" = some (.ref fa))
    {od0 od1 od2 od3 od4 od5 od6 od7 od8 od9 od10 od11 od12 od13 od14 od15 od16 od17 od18 od19 od20 od21 od22 od23 od24 od25 od26 od27 od28 od29 od30 od31 od32 od33 od34 od35 od36 od37 od38 od39 od40 od41 od42 od43 od44 od45 od46 od47 od48 od49 od50 od51 od52 od53 od54 od55 od56 od57 od58 od59 an0 an1 an2 an3 an4 an5 an6 an7 an8 an9 an10 an11 an12 an13 an14 an15 an16 an17 an18 an19 an20 an21 an22 an23 an24 an25 an26 an27 an28 an29 an30 an31 an32 an33 an34 an35 an36 an37 an38 an39 an40 an41 an42 an43 an44 an45 an46 an47 an48 an49 an50 an51 an52 an53 an54 an55 an56 an57 an58 an59 : Option Addr} {sl0 sl1 sl2 sl3 sl4 sl5 sl6 sl7 sl8 sl9 sl10 sl11 sl12 sl13 sl14 sl15 sl16 sl17 sl18 sl19 sl20 sl21 sl22 sl23 sl24 sl25 sl26 sl27 sl28 sl29 sl30 sl31 sl32 sl33 sl34 sl35 sl36 sl37 sl38 sl39 sl40 sl41 sl42 sl43 sl44 sl45 sl46 sl47 sl48 sl49 sl50 sl51 sl52 sl53 sl54 sl55 sl56 sl57 sl58 sl59 : Array (Option Value)} {oc0 oc1 oc2 oc3 oc4 oc5 oc6 oc7 oc8 oc9 oc10 oc11 oc12 oc13 oc14 oc15 oc16 oc17 oc18 oc19 oc20 oc21 oc22 oc23 oc24 oc25 oc26 oc27 oc28 oc29 oc30 oc31 oc32 oc33 oc34 oc35 oc36 oc37 oc38 oc39 oc40 oc41 oc42 oc43 oc44 oc45 oc46 oc47 oc48 oc49 oc50 oc51 oc52 oc53 oc54 oc55 oc56 oc57 oc58 oc59 kV0 kV1 kV2 kV3 kV4 kV5 kV6 kV7 kV8 kV9 kV10 kV11 kV12 kV13 kV14 kV15 kV16 kV17 kV18 kV19 kV20 kV21 kV22 kV23 kV24 kV25 kV26 kV27 kV28 kV29 kV30 kV31 kV32 kV33 kV34 kV35 kV36 kV37 kV38 kV39 kV40 kV41 kV42 kV43 kV44 kV45 kV46 kV47 kV48 kV49 kV50 kV51 kV52 kV53 kV54 kV55 kV56 kV57 kV58 kV59 dc0 dc1 dc2 dc3 dc4 dc5 dc6 dc7 dc8 dc9 dc10 dc11 dc12 dc13 dc14 dc15 dc16 dc17 dc18 dc19 dc20 dc21 dc22 dc23 dc24 dc25 dc26 dc27 dc28 dc29 dc30 dc31 dc32 dc33 dc34 dc35 dc36 dc37 dc38 dc39 dc40 dc41 dc42 dc43 dc44 dc45 dc46 dc47 dc48 dc49 dc50 dc51 dc52 dc53 dc54 dc55 dc56 dc57 dc58 dc59 pm0 pm1 pm2 pm3 pm4 pm5 pm6 pm7 pm8 pm9 pm10 pm11 pm12 pm13 pm14 pm15 pm16 pm17 pm18 pm19 pm20 pm21 pm22 pm23 pm24 pm25 pm26 pm27 pm28 pm29 pm30 pm31 pm32 pm33 pm34 pm35 pm36 pm37 pm38 pm39 pm40 pm41 pm42 pm43 pm44 pm45 pm46 pm47 pm48 pm49 pm50 pm51 pm52 pm53 pm54 pm55 pm56 pm57 pm58 pm59 cd0 cd1 cd2 cd3 cd4 cd5 cd6 cd7 cd8 cd9 cd10 cd11 cd12 cd13 cd14 cd15 cd16 cd17 cd18 cd19 cd20 cd21 cd22 cd23 cd24 cd25 cd26 cd27 cd28 cd29 cd30 cd31 cd32 cd33 cd34 cd35 cd36 cd37 cd38 cd39 cd40 cd41 cd42 cd43 cd44 cd45 cd46 cd47 cd48 cd49 cd50 cd51 cd52 cd53 cd54 cd55 cd56 cd57 cd58 cd59 ct0 ct1 ct2 ct3 ct4 ct5 ct6 ct7 ct8 ct9 ct10 ct11 ct12 ct13 ct14 ct15 ct16 ct17 ct18 ct19 ct20 ct21 ct22 ct23 ct24 ct25 ct26 ct27 ct28 ct29 ct30 ct31 ct32 ct33 ct34 ct35 ct36 ct37 ct38 ct39 ct40 ct41 ct42 ct43 ct44 ct45 ct46 ct47 ct48 ct49 ct50 ct51 ct52 ct53 ct54 ct55 ct56 ct57 ct58 ct59 : Value} {tk_PAIR : Tok}
    (a0 : PySem.W.nsIn K mainGlobals "_law_lists" = some (some (.ref f0)))
    (l0 : K.lookup f0 = some ⟨oc0, od0, .func (PySem.W.fnOf "_law_lists" "_law_lists" (defArgs (topS 61)) (defBody (topS 61)) (defScope (topS 61)) .none kV0 dc0 pm0 an0 cd0 ct0), sl0⟩)
    (cdi0 : PySem.W.codeIn K cd0 "_law_lists" = true)
    (kp0 : PySem.W.keepIn K (.ref f0) = true)
    (a1 : PySem.W.nsIn K mainGlobals "_law_named" = some (some (.ref f1)))
    (l1 : K.lookup f1 = some ⟨oc1, od1, .func (PySem.W.fnOf "_law_named" "_law_named" (defArgs (topS 62)) (defBody (topS 62)) (defScope (topS 62)) .none kV1 dc1 pm1 an1 cd1 ct1), sl1⟩)
    (cdi1 : PySem.W.codeIn K cd1 "_law_named" = true)
    (kp1 : PySem.W.keepIn K (.ref f1) = true)
    (a2 : PySem.W.nsIn K mainGlobals "_law_same" = some (some (.ref f2)))
    (l2 : K.lookup f2 = some ⟨oc2, od2, .func (PySem.W.fnOf "_law_same" "_law_same" (defArgs (topS 60)) (defBody (topS 60)) (defScope (topS 60)) .none kV2 dc2 pm2 an2 cd2 ct2), sl2⟩)
    (cdi2 : PySem.W.codeIn K cd2 "_law_same" = true)
    (kp2 : PySem.W.keepIn K (.ref f2) = true)
    (a3 : PySem.W.nsIn K mainGlobals "all_goods" = some (some (.ref f3)))
    (l3 : K.lookup f3 = some ⟨oc3, od3, .func (PySem.W.fnOf "all_goods" "all_goods" (defArgs (topS 16)) (defBody (topS 16)) (defScope (topS 16)) .none kV3 dc3 pm3 an3 cd3 ct3), sl3⟩)
    (cdi3 : PySem.W.codeIn K cd3 "all_goods" = true)
    (kp3 : PySem.W.keepIn K (.ref f3) = true)
    (a4 : PySem.W.nsIn K mainGlobals "set_of" = some (some (.ref f4)))
    (l4 : K.lookup f4 = some ⟨oc4, od4, .func (PySem.W.fnOf "set_of" "set_of" (defArgs (topS 9)) (defBody (topS 9)) (defScope (topS 9)) .none kV4 dc4 pm4 an4 cd4 ct4), sl4⟩)
    (cdi4 : PySem.W.codeIn K cd4 "set_of" = true)
    (kp4 : PySem.W.keepIn K (.ref f4) = true)
    (a5 : PySem.W.nsIn K mainGlobals "tupled" = some (some (.ref f5)))
    (l5 : K.lookup f5 = some ⟨oc5, od5, .func (PySem.W.fnOf "tupled" "tupled" (defArgs (topS 4)) (defBody (topS 4)) (defScope (topS 4)) .none kV5 dc5 pm5 an5 cd5 ct5), sl5⟩)
    (cdi5 : PySem.W.codeIn K cd5 "tupled" = true)
    (kp5 : PySem.W.keepIn K (.ref f5) = true)
    (a6 : PySem.W.nsIn K mainGlobals "in_order" = some (some (.ref f6)))
    (l6 : K.lookup f6 = some ⟨oc6, od6, .func (PySem.W.fnOf "in_order" "in_order" (defArgs (topS 18)) (defBody (topS 18)) (defScope (topS 18)) .none kV6 dc6 pm6 an6 cd6 ct6), sl6⟩)
    (cdi6 : PySem.W.codeIn K cd6 "in_order" = true)
    (kp6 : PySem.W.keepIn K (.ref f6) = true)
    (a7 : PySem.W.nsIn K mainGlobals "is_number" = some (some (.ref f7)))
    (l7 : K.lookup f7 = some ⟨oc7, od7, .func (PySem.W.fnOf "is_number" "is_number" (defArgs (topS 5)) (defBody (topS 5)) (defScope (topS 5)) .none kV7 dc7 pm7 an7 cd7 ct7), sl7⟩)
    (cdi7 : PySem.W.codeIn K cd7 "is_number" = true)
    (kp7 : PySem.W.keepIn K (.ref f7) = true)
    (a8 : PySem.W.nsIn K mainGlobals "is_count" = some (some (.ref f8)))
    (l8 : K.lookup f8 = some ⟨oc8, od8, .func (PySem.W.fnOf "is_count" "is_count" (defArgs (topS 6)) (defBody (topS 6)) (defScope (topS 6)) .none kV8 dc8 pm8 an8 cd8 ct8), sl8⟩)
    (cdi8 : PySem.W.codeIn K cd8 "is_count" = true)
    (kp8 : PySem.W.keepIn K (.ref f8) = true)
    (a9 : PySem.W.nsIn K mainGlobals "is_below" = some (some (.ref f9)))
    (l9 : K.lookup f9 = some ⟨oc9, od9, .func (PySem.W.fnOf "is_below" "is_below" (defArgs (topS 7)) (defBody (topS 7)) (defScope (topS 7)) .none kV9 dc9 pm9 an9 cd9 ct9), sl9⟩)
    (cdi9 : PySem.W.codeIn K cd9 "is_below" = true)
    (kp9 : PySem.W.keepIn K (.ref f9) = true)
    (a10 : PySem.W.nsIn K mainGlobals "rises" = some (some (.ref f10)))
    (l10 : K.lookup f10 = some ⟨oc10, od10, .func (PySem.W.fnOf "rises" "rises" (defArgs (topS 10)) (defBody (topS 10)) (defScope (topS 10)) .none kV10 dc10 pm10 an10 cd10 ct10), sl10⟩)
    (cdi10 : PySem.W.codeIn K cd10 "rises" = true)
    (kp10 : PySem.W.keepIn K (.ref f10) = true)
    (a11 : PySem.W.nsIn K mainGlobals "is_lot" = some (some (.ref f11)))
    (l11 : K.lookup f11 = some ⟨oc11, od11, .func (PySem.W.fnOf "is_lot" "is_lot" (defArgs (topS 13)) (defBody (topS 13)) (defScope (topS 13)) .none kV11 dc11 pm11 an11 cd11 ct11), sl11⟩)
    (cdi11 : PySem.W.codeIn K cd11 "is_lot" = true)
    (kp11 : PySem.W.keepIn K (.ref f11) = true)
    (a12 : PySem.W.nsIn K mainGlobals "is_family" = some (some (.ref f12)))
    (l12 : K.lookup f12 = some ⟨oc12, od12, .func (PySem.W.fnOf "is_family" "is_family" (defArgs (topS 34)) (defBody (topS 34)) (defScope (topS 34)) .none kV12 dc12 pm12 an12 cd12 ct12), sl12⟩)
    (cdi12 : PySem.W.codeIn K cd12 "is_family" = true)
    (kp12 : PySem.W.keepIn K (.ref f12) = true)
    (a13 : PySem.W.nsIn K mainGlobals "sure_goods" = some (some (.ref f13)))
    (l13 : K.lookup f13 = some ⟨oc13, od13, .func (PySem.W.fnOf "sure_goods" "sure_goods" (defArgs (topS 29)) (defBody (topS 29)) (defScope (topS 29)) .none kV13 dc13 pm13 an13 cd13 ct13), sl13⟩)
    (cdi13 : PySem.W.codeIn K cd13 "sure_goods" = true)
    (kp13 : PySem.W.keepIn K (.ref f13) = true)
    (a14 : PySem.W.nsIn K mainGlobals "sure_family" = some (some (.ref f14)))
    (l14 : K.lookup f14 = some ⟨oc14, od14, .func (PySem.W.fnOf "sure_family" "sure_family" (defArgs (topS 35)) (defBody (topS 35)) (defScope (topS 35)) .none kV14 dc14 pm14 an14 cd14 ct14), sl14⟩)
    (cdi14 : PySem.W.codeIn K cd14 "sure_family" = true)
    (kp14 : PySem.W.keepIn K (.ref f14) = true)
    (a15 : PySem.W.nsIn K mainGlobals "family_met" = some (some (.ref f15)))
    (l15 : K.lookup f15 = some ⟨oc15, od15, .func (PySem.W.fnOf "family_met" "family_met" (defArgs (topS 51)) (defBody (topS 51)) (defScope (topS 51)) .none kV15 dc15 pm15 an15 cd15 ct15), sl15⟩)
    (cdi15 : PySem.W.codeIn K cd15 "family_met" = true)
    (kp15 : PySem.W.keepIn K (.ref f15) = true)
    (a16 : PySem.W.nsIn K mainGlobals "is_part" = some (some (.ref f16)))
    (l16 : K.lookup f16 = some ⟨oc16, od16, .func (PySem.W.fnOf "is_part" "is_part" (defArgs (topS 19)) (defBody (topS 19)) (defScope (topS 19)) .none kV16 dc16 pm16 an16 cd16 ct16), sl16⟩)
    (cdi16 : PySem.W.codeIn K cd16 "is_part" = true)
    (kp16 : PySem.W.keepIn K (.ref f16) = true)
    (a17 : PySem.W.nsIn K mainGlobals "is_tuple_of" = some (some (.ref f17)))
    (l17 : K.lookup f17 = some ⟨oc17, od17, .func (PySem.W.fnOf "is_tuple_of" "is_tuple_of" (defArgs (topS 8)) (defBody (topS 8)) (defScope (topS 8)) .none kV17 dc17 pm17 an17 cd17 ct17), sl17⟩)
    (cdi17 : PySem.W.codeIn K cd17 "is_tuple_of" = true)
    (kp17 : PySem.W.keepIn K (.ref f17) = true)
    (a18 : PySem.W.nsIn K mainGlobals "is_menu" = some (some (.ref f18)))
    (l18 : K.lookup f18 = some ⟨oc18, od18, .func (PySem.W.fnOf "is_menu" "is_menu" (defArgs (topS 14)) (defBody (topS 14)) (defScope (topS 14)) .none kV18 dc18 pm18 an18 cd18 ct18), sl18⟩)
    (cdi18 : PySem.W.codeIn K cd18 "is_menu" = true)
    (kp18 : PySem.W.keepIn K (.ref f18) = true)
    (a19 : PySem.W.nsIn K mainGlobals "is_fact" = some (some (.ref f19)))
    (l19 : K.lookup f19 = some ⟨oc19, od19, .func (PySem.W.fnOf "is_fact" "is_fact" (defArgs (topS 27)) (defBody (topS 27)) (defScope (topS 27)) .none kV19 dc19 pm19 an19 cd19 ct19), sl19⟩)
    (cdi19 : PySem.W.codeIn K cd19 "is_fact" = true)
    (kp19 : PySem.W.keepIn K (.ref f19) = true)
    (a20 : PySem.W.nsIn K mainGlobals "are_facts" = some (some (.ref f20)))
    (l20 : K.lookup f20 = some ⟨oc20, od20, .func (PySem.W.fnOf "are_facts" "are_facts" (defArgs (topS 28)) (defBody (topS 28)) (defScope (topS 28)) .none kV20 dc20 pm20 an20 cd20 ct20), sl20⟩)
    (cdi20 : PySem.W.codeIn K cd20 "are_facts" = true)
    (kp20 : PySem.W.keepIn K (.ref f20) = true)
    (a21 : PySem.W.nsIn K mainGlobals "sure_facts" = some (some (.ref f21)))
    (l21 : K.lookup f21 = some ⟨oc21, od21, .func (PySem.W.fnOf "sure_facts" "sure_facts" (defArgs (topS 30)) (defBody (topS 30)) (defScope (topS 30)) .none kV21 dc21 pm21 an21 cd21 ct21), sl21⟩)
    (cdi21 : PySem.W.codeIn K cd21 "sure_facts" = true)
    (kp21 : PySem.W.keepIn K (.ref f21) = true)
    (a22 : PySem.W.nsIn K mainGlobals "is_stuck_set" = some (some (.ref f22)))
    (l22 : K.lookup f22 = some ⟨oc22, od22, .func (PySem.W.fnOf "is_stuck_set" "is_stuck_set" (defArgs (topS 45)) (defBody (topS 45)) (defScope (topS 45)) .none kV22 dc22 pm22 an22 cd22 ct22), sl22⟩)
    (cdi22 : PySem.W.codeIn K cd22 "is_stuck_set" = true)
    (kp22 : PySem.W.keepIn K (.ref f22) = true)
    (a23 : PySem.W.nsIn K mainGlobals "lets" = some (some (.ref f23)))
    (l23 : K.lookup f23 = some ⟨oc23, od23, .func (PySem.W.fnOf "lets" "lets" (defArgs (topS 31)) (defBody (topS 31)) (defScope (topS 31)) .none kV23 dc23 pm23 an23 cd23 ct23), sl23⟩)
    (cdi23 : PySem.W.codeIn K cd23 "lets" = true)
    (kp23 : PySem.W.keepIn K (.ref f23) = true)
    (a24 : PySem.W.nsIn K mainGlobals "sets_of" = some (some (.ref f24)))
    (l24 : K.lookup f24 = some ⟨oc24, od24, .func (PySem.W.fnOf "sets_of" "sets_of" (defArgs (topS 11)) (defBody (topS 11)) (defScope (topS 11)) .none kV24 dc24 pm24 an24 cd24 ct24), sl24⟩)
    (cdi24 : PySem.W.codeIn K cd24 "sets_of" = true)
    (kp24 : PySem.W.keepIn K (.ref f24) = true)
    (a25 : PySem.W.nsIn K mainGlobals "lots_of" = some (some (.ref f25)))
    (l25 : K.lookup f25 = some ⟨oc25, od25, .func (PySem.W.fnOf "lots_of" "lots_of" (defArgs (topS 17)) (defBody (topS 17)) (defScope (topS 17)) .none kV25 dc25 pm25 an25 cd25 ct25), sl25⟩)
    (cdi25 : PySem.W.codeIn K cd25 "lots_of" = true)
    (kp25 : PySem.W.keepIn K (.ref f25) = true)
    (a26 : PySem.W.nsIn K mainGlobals "let_lots" = some (some (.ref f26)))
    (l26 : K.lookup f26 = some ⟨oc26, od26, .func (PySem.W.fnOf "let_lots" "let_lots" (defArgs (topS 33)) (defBody (topS 33)) (defScope (topS 33)) .none kV26 dc26 pm26 an26 cd26 ct26), sl26⟩)
    (cdi26 : PySem.W.codeIn K cd26 "let_lots" = true)
    (kp26 : PySem.W.keepIn K (.ref f26) = true)
    (a27 : PySem.W.nsIn K mainGlobals "ways_on" = some (some (.ref f27)))
    (l27 : K.lookup f27 = some ⟨oc27, od27, .func (PySem.W.fnOf "ways_on" "ways_on" (defArgs (topS 46)) (defBody (topS 46)) (defScope (topS 46)) .none kV27 dc27 pm27 an27 cd27 ct27), sl27⟩)
    (cdi27 : PySem.W.codeIn K cd27 "ways_on" = true)
    (kp27 : PySem.W.keepIn K (.ref f27) = true)
    (a28 : PySem.W.nsIn K mainGlobals "orders_from" = some (some (.ref f28)))
    (l28 : K.lookup f28 = some ⟨oc28, od28, .func (PySem.W.fnOf "orders_from" "orders_from" (defArgs (topS 47)) (defBody (topS 47)) (defScope (topS 47)) .none kV28 dc28 pm28 an28 cd28 ct28), sl28⟩)
    (cdi28 : PySem.W.codeIn K cd28 "orders_from" = true)
    (kp28 : PySem.W.keepIn K (.ref f28) = true)
    (a29 : PySem.W.nsIn K mainGlobals "let_orders" = some (some (.ref f29)))
    (l29 : K.lookup f29 = some ⟨oc29, od29, .func (PySem.W.fnOf "let_orders" "let_orders" (defArgs (topS 48)) (defBody (topS 48)) (defScope (topS 48)) .none kV29 dc29 pm29 an29 cd29 ct29), sl29⟩)
    (cdi29 : PySem.W.codeIn K cd29 "let_orders" = true)
    (kp29 : PySem.W.keepIn K (.ref f29) = true)
    (a30 : PySem.W.nsIn K mainGlobals "is_order" = some (some (.ref f30)))
    (l30 : K.lookup f30 = some ⟨oc30, od30, .func (PySem.W.fnOf "is_order" "is_order" (defArgs (topS 21)) (defBody (topS 21)) (defScope (topS 21)) .none kV30 dc30 pm30 an30 cd30 ct30), sl30⟩)
    (cdi30 : PySem.W.codeIn K cd30 "is_order" = true)
    (kp30 : PySem.W.keepIn K (.ref f30) = true)
    (a31 : PySem.W.nsIn K mainGlobals "order_told" = some (some (.ref f31)))
    (l31 : K.lookup f31 = some ⟨oc31, od31, .func (PySem.W.fnOf "order_told" "order_told" (defArgs (topS 36)) (defBody (topS 36)) (defScope (topS 36)) .none kV31 dc31 pm31 an31 cd31 ct31), sl31⟩)
    (cdi31 : PySem.W.codeIn K cd31 "order_told" = true)
    (kp31 : PySem.W.keepIn K (.ref f31) = true)
    (a32 : PySem.W.nsIn K mainGlobals "line_family" = some (some (.ref f32)))
    (l32 : K.lookup f32 = some ⟨oc32, od32, .func (PySem.W.fnOf "line_family" "line_family" (defArgs (topS 52)) (defBody (topS 52)) (defScope (topS 52)) .none kV32 dc32 pm32 an32 cd32 ct32), sl32⟩)
    (cdi32 : PySem.W.codeIn K cd32 "line_family" = true)
    (kp32 : PySem.W.keepIn K (.ref f32) = true)
    (a33 : PySem.W.nsIn K mainGlobals "lots_reached" = some (some (.ref f33)))
    (l33 : K.lookup f33 = some ⟨oc33, od33, .func (PySem.W.fnOf "lots_reached" "lots_reached" (defArgs (topS 49)) (defBody (topS 49)) (defScope (topS 49)) .none kV33 dc33 pm33 an33 cd33 ct33), sl33⟩)
    (cdi33 : PySem.W.codeIn K cd33 "lots_reached" = true)
    (kp33 : PySem.W.keepIn K (.ref f33) = true)
    (a34 : PySem.W.nsIn K mainGlobals "reached_lots" = some (some (.ref f34)))
    (l34 : K.lookup f34 = some ⟨oc34, od34, .func (PySem.W.fnOf "reached_lots" "reached_lots" (defArgs (topS 50)) (defBody (topS 50)) (defScope (topS 50)) .none kV34 dc34 pm34 an34 cd34 ct34), sl34⟩)
    (cdi34 : PySem.W.codeIn K cd34 "reached_lots" = true)
    (kp34 : PySem.W.keepIn K (.ref f34) = true)
    (a35 : PySem.W.nsIn K mainGlobals "laid_from" = some (some (.ref f35)))
    (l35 : K.lookup f35 = some ⟨oc35, od35, .func (PySem.W.fnOf "laid_from" "laid_from" (defArgs (topS 40)) (defBody (topS 40)) (defScope (topS 40)) .none kV35 dc35 pm35 an35 cd35 ct35), sl35⟩)
    (cdi35 : PySem.W.codeIn K cd35 "laid_from" = true)
    (kp35 : PySem.W.keepIn K (.ref f35) = true)
    (a36 : PySem.W.nsIn K mainGlobals "laid" = some (some (.ref f36)))
    (l36 : K.lookup f36 = some ⟨oc36, od36, .func (PySem.W.fnOf "laid" "laid" (defArgs (topS 41)) (defBody (topS 41)) (defScope (topS 41)) .none kV36 dc36 pm36 an36 cd36 ct36), sl36⟩)
    (cdi36 : PySem.W.codeIn K cd36 "laid" = true)
    (kp36 : PySem.W.keepIn K (.ref f36) = true)
    (a37 : PySem.W.nsIn K mainGlobals "some_order" = some (some (.ref f37)))
    (l37 : K.lookup f37 = some ⟨oc37, od37, .func (PySem.W.fnOf "some_order" "some_order" (defArgs (topS 42)) (defBody (topS 42)) (defScope (topS 42)) .none kV37 dc37 pm37 an37 cd37 ct37), sl37⟩)
    (cdi37 : PySem.W.codeIn K cd37 "some_order" = true)
    (kp37 : PySem.W.keepIn K (.ref f37) = true)
    (a38 : PySem.W.nsIn K mainGlobals "waits_by" = some (some (.ref f38)))
    (l38 : K.lookup f38 = some ⟨oc38, od38, .func (PySem.W.fnOf "waits_by" "waits_by" (defArgs (topS 43)) (defBody (topS 43)) (defScope (topS 43)) .none kV38 dc38 pm38 an38 cd38 ct38), sl38⟩)
    (cdi38 : PySem.W.codeIn K cd38 "waits_by" = true)
    (kp38 : PySem.W.keepIn K (.ref f38) = true)
    (a39 : PySem.W.nsIn K mainGlobals "stuck_set" = some (some (.ref f39)))
    (l39 : K.lookup f39 = some ⟨oc39, od39, .func (PySem.W.fnOf "stuck_set" "stuck_set" (defArgs (topS 44)) (defBody (topS 44)) (defScope (topS 44)) .none kV39 dc39 pm39 an39 cd39 ct39), sl39⟩)
    (cdi39 : PySem.W.codeIn K cd39 "stuck_set" = true)
    (kp39 : PySem.W.keepIn K (.ref f39) = true)
    (a40 : PySem.W.nsIn K mainGlobals "_law_orders_right" = some (some (.ref f40)))
    (l40 : K.lookup f40 = some ⟨oc40, od40, .func (PySem.W.fnOf "_law_orders_right" "_law_orders_right" (defArgs (topS 64)) (defBody (topS 64)) (defScope (topS 64)) .none kV40 dc40 pm40 an40 cd40 ct40), sl40⟩)
    (cdi40 : PySem.W.codeIn K cd40 "_law_orders_right" = true)
    (kp40 : PySem.W.keepIn K (.ref f40) = true)
    (a41 : PySem.W.nsIn K mainGlobals "picked_in" = some (some (.ref f41)))
    (l41 : K.lookup f41 = some ⟨oc41, od41, .func (PySem.W.fnOf "picked_in" "picked_in" (defArgs (topS 53)) (defBody (topS 53)) (defScope (topS 53)) .none kV41 dc41 pm41 an41 cd41 ct41), sl41⟩)
    (cdi41 : PySem.W.codeIn K cd41 "picked_in" = true)
    (kp41 : PySem.W.keepIn K (.ref f41) = true)
    (a42 : PySem.W.nsIn K mainGlobals "breaking_order" = some (some (.ref f42)))
    (l42 : K.lookup f42 = some ⟨oc42, od42, .func (PySem.W.fnOf "breaking_order" "breaking_order" (defArgs (topS 56)) (defBody (topS 56)) (defScope (topS 56)) .none kV42 dc42 pm42 an42 cd42 ct42), sl42⟩)
    (cdi42 : PySem.W.codeIn K cd42 "breaking_order" = true)
    (kp42 : PySem.W.keepIn K (.ref f42) = true)
    (a43 : PySem.W.nsIn K mainGlobals "can_be_picked" = some (some (.ref f43)))
    (l43 : K.lookup f43 = some ⟨oc43, od43, .func (PySem.W.fnOf "can_be_picked" "can_be_picked" (defArgs (topS 54)) (defBody (topS 54)) (defScope (topS 54)) .none kV43 dc43 pm43 an43 cd43 ct43), sl43⟩)
    (cdi43 : PySem.W.codeIn K cd43 "can_be_picked" = true)
    (kp43 : PySem.W.keepIn K (.ref f43) = true)
    (a44 : PySem.W.nsIn K mainGlobals "fact_follows" = some (some (.ref f44)))
    (l44 : K.lookup f44 = some ⟨oc44, od44, .func (PySem.W.fnOf "fact_follows" "fact_follows" (defArgs (topS 55)) (defBody (topS 55)) (defScope (topS 55)) .none kV44 dc44 pm44 an44 cd44 ct44), sl44⟩)
    (cdi44 : PySem.W.codeIn K cd44 "fact_follows" = true)
    (kp44 : PySem.W.keepIn K (.ref f44) = true)
    (a45 : PySem.W.nsIn K mainGlobals "told_order" = some (some (.ref f45)))
    (l45 : K.lookup f45 = some ⟨oc45, od45, .func (PySem.W.fnOf "told_order" "told_order" (defArgs (topS 22)) (defBody (topS 22)) (defScope (topS 22)) .none kV45 dc45 pm45 an45 cd45 ct45), sl45⟩)
    (cdi45 : PySem.W.codeIn K cd45 "told_order" = true)
    (kp45 : PySem.W.keepIn K (.ref f45) = true)
    (a46 : PySem.W.nsIn K mainGlobals "best_of" = some (some (.ref f46)))
    (l46 : K.lookup f46 = some ⟨oc46, od46, .func (PySem.W.fnOf "best_of" "best_of" (defArgs (topS 23)) (defBody (topS 23)) (defScope (topS 23)) .none kV46 dc46 pm46 an46 cd46 ct46), sl46⟩)
    (cdi46 : PySem.W.codeIn K cd46 "best_of" = true)
    (kp46 : PySem.W.keepIn K (.ref f46) = true)
    (a47 : PySem.W.nsIn K mainGlobals "picks_all" = some (some (.ref f47)))
    (l47 : K.lookup f47 = some ⟨oc47, od47, .func (PySem.W.fnOf "picks_all" "picks_all" (defArgs (topS 38)) (defBody (topS 38)) (defScope (topS 38)) .none kV47 dc47 pm47 an47 cd47 ct47), sl47⟩)
    (cdi47 : PySem.W.codeIn K cd47 "picks_all" = true)
    (kp47 : PySem.W.keepIn K (.ref f47) = true)
    (a48 : PySem.W.nsIn K mainGlobals "is_breaking_order" = some (some (.ref f48)))
    (l48 : K.lookup f48 = some ⟨oc48, od48, .func (PySem.W.fnOf "is_breaking_order" "is_breaking_order" (defArgs (topS 57)) (defBody (topS 57)) (defScope (topS 57)) .none kV48 dc48 pm48 an48 cd48 ct48), sl48⟩)
    (cdi48 : PySem.W.codeIn K cd48 "is_breaking_order" = true)
    (kp48 : PySem.W.keepIn K (.ref f48) = true)
    (a49 : PySem.W.nsIn K mainGlobals "needless_told_facts" = some (some (.ref f49)))
    (l49 : K.lookup f49 = some ⟨oc49, od49, .func (PySem.W.fnOf "needless_told_facts" "needless_told_facts" (defArgs (topS 58)) (defBody (topS 58)) (defScope (topS 58)) .none kV49 dc49 pm49 an49 cd49 ct49), sl49⟩)
    (cdi49 : PySem.W.codeIn K cd49 "needless_told_facts" = true)
    (kp49 : PySem.W.keepIn K (.ref f49) = true)
    (a50 : PySem.W.nsIn K mainGlobals "_law_picked_right" = some (some (.ref f50)))
    (l50 : K.lookup f50 = some ⟨oc50, od50, .func (PySem.W.fnOf "_law_picked_right" "_law_picked_right" (defArgs (topS 65)) (defBody (topS 65)) (defScope (topS 65)) .none kV50 dc50 pm50 an50 cd50 ct50), sl50⟩)
    (cdi50 : PySem.W.codeIn K cd50 "_law_picked_right" = true)
    (kp50 : PySem.W.keepIn K (.ref f50) = true)
    (a51 : PySem.W.nsIn K mainGlobals "lots_ahead" = some (some (.ref f51)))
    (l51 : K.lookup f51 = some ⟨oc51, od51, .func (PySem.W.fnOf "lots_ahead" "lots_ahead" (defArgs (topS 24)) (defBody (topS 24)) (defScope (topS 24)) .none kV51 dc51 pm51 an51 cd51 ct51), sl51⟩)
    (cdi51 : PySem.W.codeIn K cd51 "lots_ahead" = true)
    (kp51 : PySem.W.keepIn K (.ref f51) = true)
    (a52 : PySem.W.nsIn K mainGlobals "is_let" = some (some (.ref f52)))
    (l52 : K.lookup f52 = some ⟨oc52, od52, .func (PySem.W.fnOf "is_let" "is_let" (defArgs (topS 37)) (defBody (topS 37)) (defScope (topS 37)) .none kV52 dc52 pm52 an52 cd52 ct52), sl52⟩)
    (cdi52 : PySem.W.codeIn K cd52 "is_let" = true)
    (kp52 : PySem.W.keepIn K (.ref f52) = true)
    (a53 : PySem.W.nsIn K mainGlobals "keeps_facts" = some (some (.ref f53)))
    (l53 : K.lookup f53 = some ⟨oc53, od53, .func (PySem.W.fnOf "keeps_facts" "keeps_facts" (defArgs (topS 39)) (defBody (topS 39)) (defScope (topS 39)) .none kV53 dc53 pm53 an53 cd53 ct53), sl53⟩)
    (cdi53 : PySem.W.codeIn K cd53 "keeps_facts" = true)
    (kp53 : PySem.W.keepIn K (.ref f53) = true)
    (a54 : PySem.W.nsIn K mainGlobals "sure_lot" = some (some (.ref f54)))
    (l54 : K.lookup f54 = some ⟨oc54, od54, .func (PySem.W.fnOf "sure_lot" "sure_lot" (defArgs (topS 15)) (defBody (topS 15)) (defScope (topS 15)) .none kV54 dc54 pm54 an54 cd54 ct54), sl54⟩)
    (cdi54 : PySem.W.codeIn K cd54 "sure_lot" = true)
    (kp54 : PySem.W.keepIn K (.ref f54) = true)
    (a55 : PySem.W.nsIn K mainGlobals "lets_lot" = some (some (.ref f55)))
    (l55 : K.lookup f55 = some ⟨oc55, od55, .func (PySem.W.fnOf "lets_lot" "lets_lot" (defArgs (topS 32)) (defBody (topS 32)) (defScope (topS 32)) .none kV55 dc55 pm55 an55 cd55 ct55), sl55⟩)
    (cdi55 : PySem.W.codeIn K cd55 "lets_lot" = true)
    (kp55 : PySem.W.keepIn K (.ref f55) = true)
    (a56 : PySem.W.nsIn K mainGlobals "_law_heard" = some (some (.ref f56)))
    (l56 : K.lookup f56 = some ⟨oc56, od56, .func (PySem.W.fnOf "_law_heard" "_law_heard" (defArgs (topS 66)) (defBody (topS 66)) (defScope (topS 66)) .none kV56 dc56 pm56 an56 cd56 ct56), sl56⟩)
    (cdi56 : PySem.W.codeIn K cd56 "_law_heard" = true)
    (kp56 : PySem.W.keepIn K (.ref f56) = true)
    (a57 : PySem.W.nsIn K mainGlobals "_law_refused_right" = some (some (.ref f57)))
    (l57 : K.lookup f57 = some ⟨oc57, od57, .func (PySem.W.fnOf "_law_refused_right" "_law_refused_right" (defArgs (topS 67)) (defBody (topS 67)) (defScope (topS 67)) .none kV57 dc57 pm57 an57 cd57 ct57), sl57⟩)
    (cdi57 : PySem.W.codeIn K cd57 "_law_refused_right" = true)
    (kp57 : PySem.W.keepIn K (.ref f57) = true)
    (a58 : PySem.W.nsIn K mainGlobals "_law_things_right" = some (some (.ref f58)))
    (l58 : K.lookup f58 = some ⟨oc58, od58, .func (PySem.W.fnOf "_law_things_right" "_law_things_right" (defArgs (topS 63)) (defBody (topS 63)) (defScope (topS 63)) .none kV58 dc58 pm58 an58 cd58 ct58), sl58⟩)
    (cdi58 : PySem.W.codeIn K cd58 "_law_things_right" = true)
    (kp58 : PySem.W.keepIn K (.ref f58) = true)
    (a59 : PySem.W.nsIn K mainGlobals "law" = some (some (.ref f59)))
    (l59 : K.lookup f59 = some ⟨oc59, od59, .func (PySem.W.fnOf "law" "law" (defArgs (topS 68)) (defBody (topS 68)) (defScope (topS 68)) .none kV59 dc59 pm59 an59 cd59 ct59), sl59⟩)
    (cdi59 : PySem.W.codeIn K cd59 "law" = true)
    (kp59 : PySem.W.keepIn K (.ref f59) = true)
    (z_ValueError : PySem.W.nsIn K mainGlobals "ValueError" = some none)
    (z_all : PySem.W.nsIn K mainGlobals "all" = some none)
    (z_any : PySem.W.nsIn K mainGlobals "any" = some none)
    (z_bool : PySem.W.nsIn K mainGlobals "bool" = some none)
    (z_enumerate : PySem.W.nsIn K mainGlobals "enumerate" = some none)
    (z_int : PySem.W.nsIn K mainGlobals "int" = some none)
    (z_isinstance : PySem.W.nsIn K mainGlobals "isinstance" = some none)
    (z_len : PySem.W.nsIn K mainGlobals "len" = some none)
    (z_list : PySem.W.nsIn K mainGlobals "list" = some none)
    (z_min : PySem.W.nsIn K mainGlobals "min" = some none)
    (z_range : PySem.W.nsIn K mainGlobals "range" = some none)
    (z_set : PySem.W.nsIn K mainGlobals "set" = some none)
    (z_sorted : PySem.W.nsIn K mainGlobals "sorted" = some none)
    (z_str : PySem.W.nsIn K mainGlobals "str" = some none)
    (z_tuple : PySem.W.nsIn K mainGlobals "tuple" = some none)
    (z_zip : PySem.W.nsIn K mainGlobals "zip" = some none)
    (k_PAIR : PySem.W.nsIn K mainGlobals "PAIR" = some (some (.int 2  tk_PAIR)))
    (eG0 : PySem.W.nsIn K mainGlobals "Unfit" = some (some (.ref ec0)))
    (eG1 : PySem.W.nsIn K mainGlobals "NoPaper" = some (some (.ref ec1)))
    (eX0 : PySem.W.excIn K ec0 [.type "ValueError", .type "Exception", .type "BaseException", .type "object"] "ValueError.__new__" = true)
    (eK0 : PySem.W.keepIn K (.ref ec0) = true)
    (eB0 : PySem.W.subIn K (.ref ec0) (.type "BaseException") = some true)
    (eT0 : PySem.W.typeIn K (.ref ec0) = some (.type "type"))
    (eD0 : PySem.W.hasDictIn K ec0 = true)
    (eS0_0 : PySem.W.subIn K (.ref ec0) (.ref ec0) = some true)
    (eS0_1 : PySem.W.subIn K (.ref ec0) (.ref ec1) = some false)
    (eA0 : PySem.W.findIn K (.ref ec0) "__getattribute__" = some (some (.builtin "BaseException.__getattribute__")))
    (eH0 : PySem.W.findIn K (.ref ec0) "__getattr__" = some none)
    (eC0 : PySem.W.findIn K (.ref ec0) "__class__" = some (some (.builtin "object.__class__")))
    (eM0 : PySem.W.mroIn K ec0 (.type "object") = some true)
    (eI0_ValueError : PySem.W.subIn K (.ref ec0) (.type "ValueError") = some true)
    (eX1 : PySem.W.excIn K ec1 [.type "ValueError", .type "Exception", .type "BaseException", .type "object"] "ValueError.__new__" = true)
    (eK1 : PySem.W.keepIn K (.ref ec1) = true)
    (eB1 : PySem.W.subIn K (.ref ec1) (.type "BaseException") = some true)
    (eT1 : PySem.W.typeIn K (.ref ec1) = some (.type "type"))
    (eD1 : PySem.W.hasDictIn K ec1 = true)
    (eS1_0 : PySem.W.subIn K (.ref ec1) (.ref ec0) = some false)
    (eS1_1 : PySem.W.subIn K (.ref ec1) (.ref ec1) = some true)
    (eA1 : PySem.W.findIn K (.ref ec1) "__getattribute__" = some (some (.builtin "BaseException.__getattribute__")))
    (eH1 : PySem.W.findIn K (.ref ec1) "__getattr__" = some none)
    (eC1 : PySem.W.findIn K (.ref ec1) "__class__" = some (some (.builtin "object.__class__")))
    (eM1 : PySem.W.mroIn K ec1 (.type "object") = some true)
    (eI1_ValueError : PySem.W.subIn K (.ref ec1) (.type "ValueError") = some true)
    (hsp : PySem.W.specialIn K (.builtin "object.__class__") "__get__" = some (some (.builtin "getset_descriptor.__get__")))
    (htk : PySem.W.takesIn K (.builtin "object.__class__") = some true) :
    ∃ fd : FuncData, (∀ (s : Shared) (v : Value), BindsTo s fd ⟨[v], []⟩ [("script", v)]) ∧ ∀ base : Heap, K.In base → base.Ns mainGlobals mg → FnOk l.prog w K mg base (L2.CX l.prog w) 21 fa fd ["script"] (spLawM K) := by
  have e := hfa.symm.trans (PySem.W.mg_of X G a59)
  cases e
  have F0 := fun_mk (st := topS 61) l0 cdi0 kp0
  have b0 := F0.binds (ps := ["matter"]) fun _ _ _ _ _ _ us hl => match us, hl with | [_], _ => rfl
  have F1 := fun_mk (st := topS 62) l1 cdi1 kp1
  have b1 := F1.binds (ps := []) fun _ _ _ _ _ _ us hl => match us, hl with | [], _ => rfl
  have F2 := fun_mk (st := topS 60) l2 cdi2 kp2
  have b2 := F2.binds (ps := ["got", "due"]) fun _ _ _ _ _ _ us hl => match us, hl with | [_, _], _ => rfl
  have F3 := fun_mk (st := topS 16) l3 cdi3 kp3
  have b3 := F3.binds (ps := ["n"]) fun _ _ _ _ _ _ us hl => match us, hl with | [_], _ => rfl
  have F4 := fun_mk (st := topS 9) l4 cdi4 kp4
  have b4 := F4.binds (ps := ["things"]) fun _ _ _ _ _ _ us hl => match us, hl with | [_], _ => rfl
  have F5 := fun_mk (st := topS 4) l5 cdi5 kp5
  have b5 := F5.binds (ps := ["thing"]) fun _ _ _ _ _ _ us hl => match us, hl with | [_], _ => rfl
  have F6 := fun_mk (st := topS 18) l6 cdi6 kp6
  have b6 := F6.binds (ps := ["lots"]) fun _ _ _ _ _ _ us hl => match us, hl with | [_], _ => rfl
  have F7 := fun_mk (st := topS 5) l7 cdi7 kp7
  have b7 := F7.binds (ps := ["thing"]) fun _ _ _ _ _ _ us hl => match us, hl with | [_], _ => rfl
  have F8 := fun_mk (st := topS 6) l8 cdi8 kp8
  have b8 := F8.binds (ps := ["thing"]) fun _ _ _ _ _ _ us hl => match us, hl with | [_], _ => rfl
  have F9 := fun_mk (st := topS 7) l9 cdi9 kp9
  have b9 := F9.binds (ps := ["thing", "bound"]) fun _ _ _ _ _ _ us hl => match us, hl with | [_, _], _ => rfl
  have F10 := fun_mk (st := topS 10) l10 cdi10 kp10
  have b10 := F10.binds (ps := ["things"]) fun _ _ _ _ _ _ us hl => match us, hl with | [_], _ => rfl
  have F11 := fun_mk (st := topS 13) l11 cdi11 kp11
  have b11 := F11.binds (ps := ["n", "thing"]) fun _ _ _ _ _ _ us hl => match us, hl with | [_, _], _ => rfl
  have F12 := fun_mk (st := topS 34) l12 cdi12 kp12
  have b12 := F12.binds (ps := ["n", "thing"]) fun _ _ _ _ _ _ us hl => match us, hl with | [_, _], _ => rfl
  have F13 := fun_mk (st := topS 29) l13 cdi13 kp13
  have b13 := F13.binds (ps := ["n"]) fun _ _ _ _ _ _ us hl => match us, hl with | [_], _ => rfl
  have F14 := fun_mk (st := topS 35) l14 cdi14 kp14
  have b14 := F14.binds (ps := ["n", "family"]) fun _ _ _ _ _ _ us hl => match us, hl with | [_, _], _ => rfl
  have F15 := fun_mk (st := topS 51) l15 cdi15 kp15
  have b15 := F15.binds (ps := ["n", "family", "other"]) fun _ _ _ _ _ _ us hl => match us, hl with | [_, _, _], _ => rfl
  have F16 := fun_mk (st := topS 19) l16 cdi16 kp16
  have b16 := F16.binds (ps := ["one", "other"]) fun _ _ _ _ _ _ us hl => match us, hl with | [_, _], _ => rfl
  have F17 := fun_mk (st := topS 8) l17 cdi17 kp17
  have b17 := F17.binds (ps := ["thing", "length"]) fun _ _ _ _ _ _ us hl => match us, hl with | [_, _], _ => rfl
  have F18 := fun_mk (st := topS 14) l18 cdi18 kp18
  have b18 := F18.binds (ps := ["n", "thing"]) fun _ _ _ _ _ _ us hl => match us, hl with | [_, _], _ => rfl
  have F19 := fun_mk (st := topS 27) l19 cdi19 kp19
  have b19 := F19.binds (ps := ["n", "thing"]) fun _ _ _ _ _ _ us hl => match us, hl with | [_, _], _ => rfl
  have F20 := fun_mk (st := topS 28) l20 cdi20 kp20
  have b20 := F20.binds (ps := ["n", "thing"]) fun _ _ _ _ _ _ us hl => match us, hl with | [_, _], _ => rfl
  have F21 := fun_mk (st := topS 30) l21 cdi21 kp21
  have b21 := F21.binds (ps := ["n", "facts"]) fun _ _ _ _ _ _ us hl => match us, hl with | [_, _], _ => rfl
  have F22 := fun_mk (st := topS 45) l22 cdi22 kp22
  have b22 := F22.binds (ps := ["n", "facts", "thing"]) fun _ _ _ _ _ _ us hl => match us, hl with | [_, _, _], _ => rfl
  have F23 := fun_mk (st := topS 31) l23 cdi23 kp23
  have b23 := F23.binds (ps := ["facts", "lot"]) fun _ _ _ _ _ _ us hl => match us, hl with | [_, _], _ => rfl
  have F24 := fun_mk (st := topS 11) l24 cdi24 kp24
  have b24 := F24.binds (ps := ["things"]) fun _ _ _ _ _ _ us hl => match us, hl with | [_], _ => rfl
  have F25 := fun_mk (st := topS 17) l25 cdi25 kp25
  have b25 := F25.binds (ps := ["n"]) fun _ _ _ _ _ _ us hl => match us, hl with | [_], _ => rfl
  have F26 := fun_mk (st := topS 33) l26 cdi26 kp26
  have b26 := F26.binds (ps := ["n", "facts"]) fun _ _ _ _ _ _ us hl => match us, hl with | [_, _], _ => rfl
  have F27 := fun_mk (st := topS 46) l27 cdi27 kp27
  have b27 := F27.binds (ps := ["n", "family", "lot"]) fun _ _ _ _ _ _ us hl => match us, hl with | [_, _, _], _ => rfl
  have F28 := fun_mk (st := topS 47) l28 cdi28 kp28
  have b28 := F28.binds (ps := ["n", "family", "row"]) fun _ _ _ _ _ _ us hl => match us, hl with | [_, _, _], _ => rfl
  have F29 := fun_mk (st := topS 48) l29 cdi29 kp29
  have b29 := F29.binds (ps := ["n", "family"]) fun _ _ _ _ _ _ us hl => match us, hl with | [_, _], _ => rfl
  have F30 := fun_mk (st := topS 21) l30 cdi30 kp30
  have b30 := F30.binds (ps := ["n", "thing"]) fun _ _ _ _ _ _ us hl => match us, hl with | [_, _], _ => rfl
  have F31 := fun_mk (st := topS 36) l31 cdi31 kp31
  have b31 := F31.binds (ps := ["n", "order"]) fun _ _ _ _ _ _ us hl => match us, hl with | [_, _], _ => rfl
  have F32 := fun_mk (st := topS 52) l32 cdi32 kp32
  have b32 := F32.binds (ps := ["n", "line"]) fun _ _ _ _ _ _ us hl => match us, hl with | [_, _], _ => rfl
  have F33 := fun_mk (st := topS 49) l33 cdi33 kp33
  have b33 := F33.binds (ps := ["n", "family"]) fun _ _ _ _ _ _ us hl => match us, hl with | [_, _], _ => rfl
  have F34 := fun_mk (st := topS 50) l34 cdi34 kp34
  have b34 := F34.binds (ps := ["n", "family"]) fun _ _ _ _ _ _ us hl => match us, hl with | [_, _], _ => rfl
  have F35 := fun_mk (st := topS 40) l35 cdi35 kp35
  have b35 := F35.binds (ps := ["facts", "row", "goods"]) fun _ _ _ _ _ _ us hl => match us, hl with | [_, _, _], _ => rfl
  have F36 := fun_mk (st := topS 41) l36 cdi36 kp36
  have b36 := F36.binds (ps := ["n", "facts"]) fun _ _ _ _ _ _ us hl => match us, hl with | [_, _], _ => rfl
  have F37 := fun_mk (st := topS 42) l37 cdi37 kp37
  have b37 := F37.binds (ps := ["n", "facts"]) fun _ _ _ _ _ _ us hl => match us, hl with | [_, _], _ => rfl
  have F38 := fun_mk (st := topS 43) l38 cdi38 kp38
  have b38 := F38.binds (ps := ["facts", "good", "left"]) fun _ _ _ _ _ _ us hl => match us, hl with | [_, _, _], _ => rfl
  have F39 := fun_mk (st := topS 44) l39 cdi39 kp39
  have b39 := F39.binds (ps := ["n", "facts"]) fun _ _ _ _ _ _ us hl => match us, hl with | [_, _], _ => rfl
  have F40 := fun_mk (st := topS 64) l40 cdi40 kp40
  have b40 := F40.binds (ps := []) fun _ _ _ _ _ _ us hl => match us, hl with | [], _ => rfl
  have F41 := fun_mk (st := topS 53) l41 cdi41 kp41
  have b41 := F41.binds (ps := ["n", "facts", "menu"]) fun _ _ _ _ _ _ us hl => match us, hl with | [_, _, _], _ => rfl
  have F42 := fun_mk (st := topS 56) l42 cdi42 kp42
  have b42 := F42.binds (ps := ["n", "facts", "fact"]) fun _ _ _ _ _ _ us hl => match us, hl with | [_, _, _], _ => rfl
  have F43 := fun_mk (st := topS 54) l43 cdi43 kp43
  have b43 := F43.binds (ps := ["n", "facts", "menu"]) fun _ _ _ _ _ _ us hl => match us, hl with | [_, _, _], _ => rfl
  have F44 := fun_mk (st := topS 55) l44 cdi44 kp44
  have b44 := F44.binds (ps := ["n", "facts", "fact"]) fun _ _ _ _ _ _ us hl => match us, hl with | [_, _, _], _ => rfl
  have F45 := fun_mk (st := topS 22) l45 cdi45 kp45
  have b45 := F45.binds (ps := ["order"]) fun _ _ _ _ _ _ us hl => match us, hl with | [_], _ => rfl
  have F46 := fun_mk (st := topS 23) l46 cdi46 kp46
  have b46 := F46.binds (ps := ["order", "menu"]) fun _ _ _ _ _ _ us hl => match us, hl with | [_, _], _ => rfl
  have F47 := fun_mk (st := topS 38) l47 cdi47 kp47
  have b47 := F47.binds (ps := ["facts", "order"]) fun _ _ _ _ _ _ us hl => match us, hl with | [_, _], _ => rfl
  have F48 := fun_mk (st := topS 57) l48 cdi48 kp48
  have b48 := F48.binds (ps := ["n", "facts", "fact", "thing"]) fun _ _ _ _ _ _ us hl => match us, hl with | [_, _, _, _], _ => rfl
  have F49 := fun_mk (st := topS 58) l49 cdi49 kp49
  have b49 := F49.binds (ps := ["n", "facts"]) fun _ _ _ _ _ _ us hl => match us, hl with | [_, _], _ => rfl
  have F50 := fun_mk (st := topS 65) l50 cdi50 kp50
  have b50 := F50.binds (ps := []) fun _ _ _ _ _ _ us hl => match us, hl with | [], _ => rfl
  have F51 := fun_mk (st := topS 24) l51 cdi51 kp51
  have b51 := F51.binds (ps := ["order"]) fun _ _ _ _ _ _ us hl => match us, hl with | [_], _ => rfl
  have F52 := fun_mk (st := topS 37) l52 cdi52 kp52
  have b52 := F52.binds (ps := ["n", "family", "order"]) fun _ _ _ _ _ _ us hl => match us, hl with | [_, _, _], _ => rfl
  have F53 := fun_mk (st := topS 39) l53 cdi53 kp53
  have b53 := F53.binds (ps := ["n", "facts", "order"]) fun _ _ _ _ _ _ us hl => match us, hl with | [_, _, _], _ => rfl
  have F54 := fun_mk (st := topS 15) l54 cdi54 kp54
  have b54 := F54.binds (ps := ["n", "lot"]) fun _ _ _ _ _ _ us hl => match us, hl with | [_, _], _ => rfl
  have F55 := fun_mk (st := topS 32) l55 cdi55 kp55
  have b55 := F55.binds (ps := ["n", "facts", "lot"]) fun _ _ _ _ _ _ us hl => match us, hl with | [_, _, _], _ => rfl
  have F56 := fun_mk (st := topS 66) l56 cdi56 kp56
  have b56 := F56.binds (ps := ["door", "n", "facts", "more"]) fun _ _ _ _ _ _ us hl => match us, hl with | [_, _, _, _], _ => rfl
  have F57 := fun_mk (st := topS 67) l57 cdi57 kp57
  have b57 := F57.binds (ps := []) fun _ _ _ _ _ _ us hl => match us, hl with | [], _ => rfl
  have F58 := fun_mk (st := topS 63) l58 cdi58 kp58
  have b58 := F58.binds (ps := []) fun _ _ _ _ _ _ us hl => match us, hl with | [], _ => rfl
  have F59 := fun_mk (st := topS 68) l59 cdi59 kp59
  have T : Tx0 ec0 ec1 K mg := { z_ValueError := PySem.W.mg_none_of X G z_ValueError, z_all := PySem.W.mg_none_of X G z_all, z_any := PySem.W.mg_none_of X G z_any, z_bool := PySem.W.mg_none_of X G z_bool, z_enumerate := PySem.W.mg_none_of X G z_enumerate, z_int := PySem.W.mg_none_of X G z_int, z_isinstance := PySem.W.mg_none_of X G z_isinstance, z_len := PySem.W.mg_none_of X G z_len, z_list := PySem.W.mg_none_of X G z_list, z_min := PySem.W.mg_none_of X G z_min, z_range := PySem.W.mg_none_of X G z_range, z_set := PySem.W.mg_none_of X G z_set, z_sorted := PySem.W.mg_none_of X G z_sorted, z_str := PySem.W.mg_none_of X G z_str, z_tuple := PySem.W.mg_none_of X G z_tuple, z_zip := PySem.W.mg_none_of X G z_zip, k_PAIR := ⟨_, PySem.W.mg_of X G k_PAIR⟩, f__law_lists := ⟨_, _, PySem.W.mg_of X G a0, F0, b0⟩, f__law_named := ⟨_, _, PySem.W.mg_of X G a1, F1, b1⟩, f__law_same := ⟨_, _, PySem.W.mg_of X G a2, F2, b2⟩, f_all_goods := ⟨_, _, PySem.W.mg_of X G a3, F3, b3⟩, f_set_of := ⟨_, _, PySem.W.mg_of X G a4, F4, b4⟩, f_tupled := ⟨_, _, PySem.W.mg_of X G a5, F5, b5⟩, f_in_order := ⟨_, _, PySem.W.mg_of X G a6, F6, b6⟩, f_is_number := ⟨_, _, PySem.W.mg_of X G a7, F7, b7⟩, f_is_count := ⟨_, _, PySem.W.mg_of X G a8, F8, b8⟩, f_is_below := ⟨_, _, PySem.W.mg_of X G a9, F9, b9⟩, f_rises := ⟨_, _, PySem.W.mg_of X G a10, F10, b10⟩, f_is_lot := ⟨_, _, PySem.W.mg_of X G a11, F11, b11⟩, f_is_family := ⟨_, _, PySem.W.mg_of X G a12, F12, b12⟩, f_sure_goods := ⟨_, _, PySem.W.mg_of X G a13, F13, b13⟩, f_sure_family := ⟨_, _, PySem.W.mg_of X G a14, F14, b14⟩, f_family_met := ⟨_, _, PySem.W.mg_of X G a15, F15, b15⟩, f_is_part := ⟨_, _, PySem.W.mg_of X G a16, F16, b16⟩, f_is_tuple_of := ⟨_, _, PySem.W.mg_of X G a17, F17, b17⟩, f_is_menu := ⟨_, _, PySem.W.mg_of X G a18, F18, b18⟩, f_is_fact := ⟨_, _, PySem.W.mg_of X G a19, F19, b19⟩, f_are_facts := ⟨_, _, PySem.W.mg_of X G a20, F20, b20⟩, f_sure_facts := ⟨_, _, PySem.W.mg_of X G a21, F21, b21⟩, f_is_stuck_set := ⟨_, _, PySem.W.mg_of X G a22, F22, b22⟩, f_lets := ⟨_, _, PySem.W.mg_of X G a23, F23, b23⟩, f_sets_of := ⟨_, _, PySem.W.mg_of X G a24, F24, b24⟩, f_lots_of := ⟨_, _, PySem.W.mg_of X G a25, F25, b25⟩, f_let_lots := ⟨_, _, PySem.W.mg_of X G a26, F26, b26⟩, f_ways_on := ⟨_, _, PySem.W.mg_of X G a27, F27, b27⟩, f_orders_from := ⟨_, _, PySem.W.mg_of X G a28, F28, b28⟩, f_let_orders := ⟨_, _, PySem.W.mg_of X G a29, F29, b29⟩, f_is_order := ⟨_, _, PySem.W.mg_of X G a30, F30, b30⟩, f_order_told := ⟨_, _, PySem.W.mg_of X G a31, F31, b31⟩, f_line_family := ⟨_, _, PySem.W.mg_of X G a32, F32, b32⟩, f_lots_reached := ⟨_, _, PySem.W.mg_of X G a33, F33, b33⟩, f_reached_lots := ⟨_, _, PySem.W.mg_of X G a34, F34, b34⟩, f_laid_from := ⟨_, _, PySem.W.mg_of X G a35, F35, b35⟩, f_laid := ⟨_, _, PySem.W.mg_of X G a36, F36, b36⟩, f_some_order := ⟨_, _, PySem.W.mg_of X G a37, F37, b37⟩, f_waits_by := ⟨_, _, PySem.W.mg_of X G a38, F38, b38⟩, f_stuck_set := ⟨_, _, PySem.W.mg_of X G a39, F39, b39⟩, f__law_orders_right := ⟨_, _, PySem.W.mg_of X G a40, F40, b40⟩, f_picked_in := ⟨_, _, PySem.W.mg_of X G a41, F41, b41⟩, f_breaking_order := ⟨_, _, PySem.W.mg_of X G a42, F42, b42⟩, f_can_be_picked := ⟨_, _, PySem.W.mg_of X G a43, F43, b43⟩, f_fact_follows := ⟨_, _, PySem.W.mg_of X G a44, F44, b44⟩, f_told_order := ⟨_, _, PySem.W.mg_of X G a45, F45, b45⟩, f_best_of := ⟨_, _, PySem.W.mg_of X G a46, F46, b46⟩, f_picks_all := ⟨_, _, PySem.W.mg_of X G a47, F47, b47⟩, f_is_breaking_order := ⟨_, _, PySem.W.mg_of X G a48, F48, b48⟩, f_needless_told_facts := ⟨_, _, PySem.W.mg_of X G a49, F49, b49⟩, f__law_picked_right := ⟨_, _, PySem.W.mg_of X G a50, F50, b50⟩, f_lots_ahead := ⟨_, _, PySem.W.mg_of X G a51, F51, b51⟩, f_is_let := ⟨_, _, PySem.W.mg_of X G a52, F52, b52⟩, f_keeps_facts := ⟨_, _, PySem.W.mg_of X G a53, F53, b53⟩, f_sure_lot := ⟨_, _, PySem.W.mg_of X G a54, F54, b54⟩, f_lets_lot := ⟨_, _, PySem.W.mg_of X G a55, F55, b55⟩, f__law_heard := ⟨_, _, PySem.W.mg_of X G a56, F56, b56⟩, f__law_refused_right := ⟨_, _, PySem.W.mg_of X G a57, F57, b57⟩, f__law_things_right := ⟨_, _, PySem.W.mg_of X G a58, F58, b58⟩, o_Unfit := ⟨PySem.W.mg_of X G eG0, eX0, eK0, eB0, eT0⟩, ex_Unfit := fun c => match c with | 0 => ⟨_, rfl, PySem.W.exm_ref eB0 eD0 eT0 eS0_0⟩ | n + 1 => ⟨_, rfl, PySem.W.exm_ref eB0 eD0 eT0 eS1_0⟩, o_NoPaper := ⟨PySem.W.mg_of X G eG1, eX1, eK1, eB1, eT1⟩, ex_NoPaper := fun c => match c with | 0 => ⟨_, rfl, PySem.W.exm_ref eB1 eD1 eT1 eS0_1⟩ | n + 1 => ⟨_, rfl, PySem.W.exm_ref eB1 eD1 eT1 eS1_1⟩, is_ValueError := fun c => match c with | 0 => ⟨_, rfl, ⟨eA0, eH0, eB0, eD0, eC0, hsp, htk, eM0⟩, kit_typ (by decide +kernel) eI0_ValueError⟩ | n + 1 => ⟨_, rfl, ⟨eA1, eH1, eB1, eD1, eC1, hsp, htk, eM1⟩, kit_typ (by decide +kernel) eI1_ValueError⟩ }
  exact ⟨PySem.W.fnOf "law" "law" (defArgs (topS 68)) (defBody (topS 68)) (defScope (topS 68)) .none kV59 dc59 pm59 an59 cd59 ct59, fun s v => .of_eq rfl, fun base _ _ => ok_law T law_val F59⟩
end Claim
open PySem PySem.W PyProof.Rows
set_option maxHeartbeats 0 in
theorem PySem.Challenge.cw_picksuntold_k09_facts_by_hand_and_refuse_holds : PySem.Challenge.rw_picksuntold_k09_facts_by_hand_and_refuse.Holds := by
  w_on; o_law; k_head; (case hw => w_witness2)
  k_fill
  refine L2.walk_of (l := PySem.Challenge.rw_picksuntold_k09_facts_by_hand_and_refuse) (n := 63) (k := 21) (x := "script") (CX := fun w => L2.CX PySem.Challenge.rw_picksuntold_k09_facts_by_hand_and_refuse.prog w) (sp := fun w => M.spLawM _) rfl (by decide) rfl ⟨rfl, by decide, by decide⟩ (fun w h Y => PySem.W.kIn_of Y) ?F (fun _ _ a ns hl _ hS => ⟨a, ns, rfl, hS, hl, fun _ => rfl⟩) (fun w H s e s' h => M.okx_never _ _ _ _ _ _ h)
  case F =>
    intro w mg fa h KX G hmg
    refine' Claim.all_mk KX G hmg ?a0 ?l0 ?cdi0 ?kp0 ?a1 ?l1 ?cdi1 ?kp1 ?a2 ?l2 ?cdi2 ?kp2 ?a3 ?l3 ?cdi3 ?kp3 ?a4 ?l4 ?cdi4 ?kp4 ?a5 ?l5 ?cdi5 ?kp5 ?a6 ?l6 ?cdi6 ?kp6 ?a7 ?l7 ?cdi7 ?kp7 ?a8 ?l8 ?cdi8 ?kp8 ?a9 ?l9 ?cdi9 ?kp9 ?a10 ?l10 ?cdi10 ?kp10 ?a11 ?l11 ?cdi11 ?kp11 ?a12 ?l12 ?cdi12 ?kp12 ?a13 ?l13 ?cdi13 ?kp13 ?a14 ?l14 ?cdi14 ?kp14 ?a15 ?l15 ?cdi15 ?kp15 ?a16 ?l16 ?cdi16 ?kp16 ?a17 ?l17 ?cdi17 ?kp17 ?a18 ?l18 ?cdi18 ?kp18 ?a19 ?l19 ?cdi19 ?kp19 ?a20 ?l20 ?cdi20 ?kp20 ?a21 ?l21 ?cdi21 ?kp21 ?a22 ?l22 ?cdi22 ?kp22 ?a23 ?l23 ?cdi23 ?kp23 ?a24 ?l24 ?cdi24 ?kp24 ?a25 ?l25 ?cdi25 ?kp25 ?a26 ?l26 ?cdi26 ?kp26 ?a27 ?l27 ?cdi27 ?kp27 ?a28 ?l28 ?cdi28 ?kp28 ?a29 ?l29 ?cdi29 ?kp29 ?a30 ?l30 ?cdi30 ?kp30 ?a31 ?l31 ?cdi31 ?kp31 ?a32 ?l32 ?cdi32 ?kp32 ?a33 ?l33 ?cdi33 ?kp33 ?a34 ?l34 ?cdi34 ?kp34 ?a35 ?l35 ?cdi35 ?kp35 ?a36 ?l36 ?cdi36 ?kp36 ?a37 ?l37 ?cdi37 ?kp37 ?a38 ?l38 ?cdi38 ?kp38 ?a39 ?l39 ?cdi39 ?kp39 ?a40 ?l40 ?cdi40 ?kp40 ?a41 ?l41 ?cdi41 ?kp41 ?a42 ?l42 ?cdi42 ?kp42 ?a43 ?l43 ?cdi43 ?kp43 ?a44 ?l44 ?cdi44 ?kp44 ?a45 ?l45 ?cdi45 ?kp45 ?a46 ?l46 ?cdi46 ?kp46 ?a47 ?l47 ?cdi47 ?kp47 ?a48 ?l48 ?cdi48 ?kp48 ?a49 ?l49 ?cdi49 ?kp49 ?a50 ?l50 ?cdi50 ?kp50 ?a51 ?l51 ?cdi51 ?kp51 ?a52 ?l52 ?cdi52 ?kp52 ?a53 ?l53 ?cdi53 ?kp53 ?a54 ?l54 ?cdi54 ?kp54 ?a55 ?l55 ?cdi55 ?kp55 ?a56 ?l56 ?cdi56 ?kp56 ?a57 ?l57 ?cdi57 ?kp57 ?a58 ?l58 ?cdi58 ?kp58 ?a59 ?l59 ?cdi59 ?kp59 ?z_ValueError ?z_all ?z_any ?z_bool ?z_enumerate ?z_int ?z_isinstance ?z_len ?z_list ?z_min ?z_range ?z_set ?z_sorted ?z_str ?z_tuple ?z_zip ?k_PAIR ?eG0 ?eG1 ?eX0 ?eK0 ?eB0 ?eT0 ?eD0 ?eS0_0 ?eS0_1 ?eA0 ?eH0 ?eC0 ?eM0 ?eI0_ValueError ?eX1 ?eK1 ?eB1 ?eT1 ?eD1 ?eS1_0 ?eS1_1 ?eA1 ?eH1 ?eC1 ?eM1 ?eI1_ValueError ?hsp ?htk
    (case a0 => k_is)
    (case l0 => k_is)
    (case cdi0 => k_is)
    (case kp0 => k_is)
    (case a1 => k_is)
    (case l1 => k_is)
    (case cdi1 => k_is)
    (case kp1 => k_is)
    (case a2 => k_is)
    (case l2 => k_is)
    (case cdi2 => k_is)
    (case kp2 => k_is)
    (case a3 => k_is)
    (case l3 => k_is)
    (case cdi3 => k_is)
    (case kp3 => k_is)
    (case a4 => k_is)
    (case l4 => k_is)
    (case cdi4 => k_is)
    (case kp4 => k_is)
    (case a5 => k_is)
    (case l5 => k_is)
    (case cdi5 => k_is)
    (case kp5 => k_is)
    (case a6 => k_is)
    (case l6 => k_is)
    (case cdi6 => k_is)
    (case kp6 => k_is)
    (case a7 => k_is)
    (case l7 => k_is)
    (case cdi7 => k_is)
    (case kp7 => k_is)
    (case a8 => k_is)
    (case l8 => k_is)
    (case cdi8 => k_is)
    (case kp8 => k_is)
    (case a9 => k_is)
    (case l9 => k_is)
    (case cdi9 => k_is)
    (case kp9 => k_is)
    (case a10 => k_is)
    (case l10 => k_is)
    (case cdi10 => k_is)
    (case kp10 => k_is)
    (case a11 => k_is)
    (case l11 => k_is)
    (case cdi11 => k_is)
    (case kp11 => k_is)
    (case a12 => k_is)
    (case l12 => k_is)
    (case cdi12 => k_is)
    (case kp12 => k_is)
    (case a13 => k_is)
    (case l13 => k_is)
    (case cdi13 => k_is)
    (case kp13 => k_is)
    (case a14 => k_is)
    (case l14 => k_is)
    (case cdi14 => k_is)
    (case kp14 => k_is)
    (case a15 => k_is)
    (case l15 => k_is)
    (case cdi15 => k_is)
    (case kp15 => k_is)
    (case a16 => k_is)
    (case l16 => k_is)
    (case cdi16 => k_is)
    (case kp16 => k_is)
    (case a17 => k_is)
    (case l17 => k_is)
    (case cdi17 => k_is)
    (case kp17 => k_is)
    (case a18 => k_is)
    (case l18 => k_is)
    (case cdi18 => k_is)
    (case kp18 => k_is)
    (case a19 => k_is)
    (case l19 => k_is)
    (case cdi19 => k_is)
    (case kp19 => k_is)
    (case a20 => k_is)
    (case l20 => k_is)
    (case cdi20 => k_is)
    (case kp20 => k_is)
    (case a21 => k_is)
    (case l21 => k_is)
    (case cdi21 => k_is)
    (case kp21 => k_is)
    (case a22 => k_is)
    (case l22 => k_is)
    (case cdi22 => k_is)
    (case kp22 => k_is)
    (case a23 => k_is)
    (case l23 => k_is)
    (case cdi23 => k_is)
    (case kp23 => k_is)
    (case a24 => k_is)
    (case l24 => k_is)
    (case cdi24 => k_is)
    (case kp24 => k_is)
    (case a25 => k_is)
    (case l25 => k_is)
    (case cdi25 => k_is)
    (case kp25 => k_is)
    (case a26 => k_is)
    (case l26 => k_is)
    (case cdi26 => k_is)
    (case kp26 => k_is)
    (case a27 => k_is)
    (case l27 => k_is)
    (case cdi27 => k_is)
    (case kp27 => k_is)
    (case a28 => k_is)
    (case l28 => k_is)
    (case cdi28 => k_is)
    (case kp28 => k_is)
    (case a29 => k_is)
    (case l29 => k_is)
    (case cdi29 => k_is)
    (case kp29 => k_is)
    (case a30 => k_is)
    (case l30 => k_is)
    (case cdi30 => k_is)
    (case kp30 => k_is)
    (case a31 => k_is)
    (case l31 => k_is)
    (case cdi31 => k_is)
    (case kp31 => k_is)
    (case a32 => k_is)
    (case l32 => k_is)
    (case cdi32 => k_is)
    (case kp32 => k_is)
    (case a33 => k_is)
    (case l33 => k_is)
    (case cdi33 => k_is)
    (case kp33 => k_is)
    (case a34 => k_is)
    (case l34 => k_is)
    (case cdi34 => k_is)
    (case kp34 => k_is)
    (case a35 => k_is)
    (case l35 => k_is)
    (case cdi35 => k_is)
    (case kp35 => k_is)
    (case a36 => k_is)
    (case l36 => k_is)
    (case cdi36 => k_is)
    (case kp36 => k_is)
    (case a37 => k_is)
    (case l37 => k_is)
    (case cdi37 => k_is)
    (case kp37 => k_is)
    (case a38 => k_is)
    (case l38 => k_is)
    (case cdi38 => k_is)
    (case kp38 => k_is)
    (case a39 => k_is)
    (case l39 => k_is)
    (case cdi39 => k_is)
    (case kp39 => k_is)
    (case a40 => k_is)
    (case l40 => k_is)
    (case cdi40 => k_is)
    (case kp40 => k_is)
    (case a41 => k_is)
    (case l41 => k_is)
    (case cdi41 => k_is)
    (case kp41 => k_is)
    (case a42 => k_is)
    (case l42 => k_is)
    (case cdi42 => k_is)
    (case kp42 => k_is)
    (case a43 => k_is)
    (case l43 => k_is)
    (case cdi43 => k_is)
    (case kp43 => k_is)
    (case a44 => k_is)
    (case l44 => k_is)
    (case cdi44 => k_is)
    (case kp44 => k_is)
    (case a45 => k_is)
    (case l45 => k_is)
    (case cdi45 => k_is)
    (case kp45 => k_is)
    (case a46 => k_is)
    (case l46 => k_is)
    (case cdi46 => k_is)
    (case kp46 => k_is)
    (case a47 => k_is)
    (case l47 => k_is)
    (case cdi47 => k_is)
    (case kp47 => k_is)
    (case a48 => k_is)
    (case l48 => k_is)
    (case cdi48 => k_is)
    (case kp48 => k_is)
    (case a49 => k_is)
    (case l49 => k_is)
    (case cdi49 => k_is)
    (case kp49 => k_is)
    (case a50 => k_is)
    (case l50 => k_is)
    (case cdi50 => k_is)
    (case kp50 => k_is)
    (case a51 => k_is)
    (case l51 => k_is)
    (case cdi51 => k_is)
    (case kp51 => k_is)
    (case a52 => k_is)
    (case l52 => k_is)
    (case cdi52 => k_is)
    (case kp52 => k_is)
    (case a53 => k_is)
    (case l53 => k_is)
    (case cdi53 => k_is)
    (case kp53 => k_is)
    (case a54 => k_is)
    (case l54 => k_is)
    (case cdi54 => k_is)
    (case kp54 => k_is)
    (case a55 => k_is)
    (case l55 => k_is)
    (case cdi55 => k_is)
    (case kp55 => k_is)
    (case a56 => k_is)
    (case l56 => k_is)
    (case cdi56 => k_is)
    (case kp56 => k_is)
    (case a57 => k_is)
    (case l57 => k_is)
    (case cdi57 => k_is)
    (case kp57 => k_is)
    (case a58 => k_is)
    (case l58 => k_is)
    (case cdi58 => k_is)
    (case kp58 => k_is)
    (case a59 => k_is)
    (case l59 => k_is)
    (case cdi59 => k_is)
    (case kp59 => k_is)
    (case z_ValueError => k_is)
    (case z_all => k_is)
    (case z_any => k_is)
    (case z_bool => k_is)
    (case z_enumerate => k_is)
    (case z_int => k_is)
    (case z_isinstance => k_is)
    (case z_len => k_is)
    (case z_list => k_is)
    (case z_min => k_is)
    (case z_range => k_is)
    (case z_set => k_is)
    (case z_sorted => k_is)
    (case z_str => k_is)
    (case z_tuple => k_is)
    (case z_zip => k_is)
    (case k_PAIR => k_is)
    (case eG0 => k_is)
    (case eG1 => k_is)
    (case eX0 => k_exc)
    (case eK0 => k_is)
    (case eB0 => k_is)
    (case eT0 => k_is)
    (case eD0 => k_is)
    (case eS0_0 => k_is)
    (case eS0_1 => k_is)
    (case eA0 => k_is)
    (case eH0 => k_is)
    (case eC0 => k_is)
    (case eM0 => k_is)
    (case eI0_ValueError => k_is)
    (case eX1 => k_exc)
    (case eK1 => k_is)
    (case eB1 => k_is)
    (case eT1 => k_is)
    (case eD1 => k_is)
    (case eS1_0 => k_is)
    (case eS1_1 => k_is)
    (case eA1 => k_is)
    (case eH1 => k_is)
    (case eC1 => k_is)
    (case eM1 => k_is)
    (case eI1_ValueError => k_is)
    (case hsp => k_is)
    (case htk => k_is)

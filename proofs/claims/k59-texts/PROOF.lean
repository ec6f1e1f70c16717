import PyProof.Rows.All
import Wide.All
import OpenK.AllK
import Wide.FinOn
import KE.KStateDown
import Lean
import HandS.Base
import HandS.Call
import HandS.Ends
import HandS.More
import HandS.Words
import HandS.WordsExc
import HandS.Defaults
import HandS.Head0
import HandS.Head1
import HandS.Head2
import HandS.HeadEnd
import HandS.HeadHook1
import HandS.HeadHook2
import HandS.HeadHook4
import HandS.ExcField
import HandS.ForMost
import HandS.Exc
import HandS.ExcOwn
import HandS.CallSlots
import HandS.Lambda
import HandS.Rev
import HandS.Zip
import HandS.Deep
import HandS.TupAny
import HandS.TupMul
import HandS.Codes
import HandS.Wide
import HandS.WideBits
import HandS.StrMore
import HandS.Small
import HandS.IsInst
import HandS.RaiseMore
import HandS.Style
import HandS.ExcInit
import HandS.ExcIs
import HandS.Conv
import PySem.Challenge.RW_conflate_k59_texts_written_and_read
set_option Elab.async false
set_option linter.all false
set_option maxRecDepth 100000
set_option maxHeartbeats 1000000
namespace VL
open PySem PySem.Spec L2

/-! ### data, owned trees -/
inductive Sc where
  | non | bl (b : Bool) | int (i : Int) | str (x : Str) | adr (a : Addr) | ty (n : String)
  deriving DecidableEq
def Sc.v : Sc → V
  | .non => .non
  | .bl b => .bl b
  | .int i => .int i
  | .str x => .str x
  | .adr a => .ref a
  | .ty n => .ty n
inductive Lab where
  | lst | tup | dk (ks : List Key) | dt (ks : List (List Key)) | obj (C : Addr) (fs : List Str) | fzl | exc (a d C : Addr) (fs : List Str)
inductive D where
  | sc (s : Sc) | nd (l : Lab) (cs : List D)
inductive O where
  | top | sh (d : D) | ow (l : Lab) (cs : List D) | dp (l : Lab) (cs : List O) | bor (o : O) | pin (v : V) | al (a : Addr) (p : List Nat) | nm (a : Addr) (o : O)

/-- what stands at the cell -/
def cellIs : Lab → List V → HO → Prop
  | .lst, vs, h => h = .lst vs
  | .tup, vs, h => h = .tup vs
  | .dk ks, vs, h => ks.length = vs.length ∧ h = .dK (ks.zip vs)
  | .dt ks, vs, h => ks.length = vs.length ∧ h = .dT (ks.zip vs)
  | .obj C fs, vs, h => fs.length = vs.length ∧ ∃ dx, h = .ins C dx (fs.zip vs)
  | .fzl, vs, h => ∃ o, h = .frz o (.lst vs)
  | .exc _ _ _ _, _, _ => False
def dictL : Lab → Bool
  | .dk _ => true
  | .dt _ => true
  | _ => false
def isDk : HO → Bool
  | .dK _ => true
  | .dT _ => true
  | _ => false
/-- a dict is locked, unlocked -/
def Lk (h h' : HO) : Prop := h' = h ∨ (∃ o, h' = .frz o h ∧ isDk h = true) ∨ (∃ o, h = .frz o h' ∧ isDk h' = true)
/-- a shared cell: a dict may be locked -/
def shCell (l : Lab) (vs : List V) (h : HO) : Prop := cellIs l vs h ∨ ∃ o u, h = .frz o u ∧ cellIs l vs u ∧ dictL l = true
theorem shCell.lk {l : Lab} {vs : List V} {h h' : HO} (c : shCell l vs h) (k : Lk h h') : shCell l vs h' := by
  rcases k with e | ⟨o, e, d⟩ | ⟨o, e, d⟩
  · rw [e]; exact c
  · subst e
    rcases c with c | ⟨o', u, e, _⟩
    · refine .inr ⟨o, h, rfl, c, ?_⟩
      cases l with
      | dk ks => rfl
      | dt ks => rfl
      | lst =>
        have e : h = .lst vs := c
        rw [e] at d; cases d
      | tup =>
        have e : h = .tup vs := c
        rw [e] at d; cases d
      | obj C fs =>
        obtain ⟨_, dx, e⟩ := c
        rw [e] at d; cases d
      | fzl =>
        obtain ⟨o', e⟩ := c
        rw [e] at d; cases d
      | exc _ _ _ _ => exact c.elim
    · rw [e] at d; cases d
  · subst e
    rcases c with c | ⟨o', u, e, c, _⟩
    · cases l with
      | dk ks => obtain ⟨_, e⟩ := c; cases e
      | dt ks => obtain ⟨_, e⟩ := c; cases e
      | lst => cases (show HO.frz o h' = .lst vs from c)
      | tup => cases (show HO.frz o h' = .tup vs from c)
      | obj C fs => obtain ⟨_, dx, e⟩ := c; cases e
      | fzl =>
        obtain ⟨o', e⟩ := c
        cases e
        cases d
      | exc _ _ _ _ => exact c.elim
    · cases e
      exact .inl c
/-- a list, a tuple of the written part -/
def KW (K : PySem.W.Frag) : Lab → Addr → List V → Prop
  | .fzl, a, xs => ∃ (o : Obj) (its : Array Value) (n : Nat), K.lookup a = some o ∧ o.cls = .type "list" ∧ o.dict = none ∧ o.data = .seq its n ∧ its.size ≤ sizeLine ∧ Vals xs its.toList
  | .tup, a, xs => ∃ (o : Obj) (its : Array Value) (n : Nat), K.lookup a = some o ∧ o.cls = .type "tuple" ∧ o.data = .seq its n ∧ its.size ≤ sizeLine ∧ Vals xs its.toList
  | _, _, _ => False
/-- .. or an exception that is caught: its dict -/
def KX (K : PySem.W.Frag) (H : Hp) (B : Addr → Prop) : Lab → Addr → List V → Prop
  | .exc a0 d _ fs, a, xs => a = a0 ∧ ¬ B d ∧ fs.length = xs.length ∧ H d = some (.xd (fs.zip xs))
  | .fzl, a, xs => KW K .fzl a xs
  | .tup, a, xs => KW K .tup a xs
  | _, _, _ => False
/-- a shared cell: not among the owned ones -/
def ShAt (K : PySem.W.Frag) (H : Hp) (B : Addr → Prop) (l : Lab) (a : Addr) (vs : List V) : Prop :=
  (¬ B a ∧ ∃ h, H a = some h ∧ shCell l vs h) ∨ KX K H B l a vs

mutual
inductive RpS (K : PySem.W.Frag) (H : Hp) (B : Addr → Prop) : V → D → Prop
  | sc (s : Sc) : RpS K H B s.v (.sc s)
  | nd {a : Addr} {l : Lab} {vs : List V} {ds : List D} : ShAt K H B l a vs → RpSs K H B vs ds → RpS K H B (.ref a) (.nd l ds)
inductive RpSs (K : PySem.W.Frag) (H : Hp) (B : Addr → Prop) : List V → List D → Prop
  | nil : RpSs K H B [] []
  | cons {v : V} {d : D} {vs : List V} {ds : List D} : RpS K H B v d → RpSs K H B vs ds → RpSs K H B (v :: vs) (d :: ds)
end
def isBor : O → Bool
  | .bor _ => true
  | _ => false
mutual
inductive RpO (K : PySem.W.Frag) (H : Hp) (B : Addr → Prop) : Option V → O → List Addr → Prop
  | top {x : Option V} : RpO K H B x .top []
  | pin {v : V} : RpO K H B (some v) (.pin v) []
  | sh {v : V} {d : D} : RpS K H B v d → RpO K H B (some v) (.sh d) []
  | ow {a : Addr} {h : HO} {l : Lab} {vs : List V} {ds : List D} : H a = some h → cellIs l vs h → RpSs K H B vs ds → RpO K H B (some (.ref a)) (.ow l ds) [a]
  | dp {a : Addr} {h : HO} {l : Lab} {vs : List V} {os : List O} {A : List Addr} : H a = some h → cellIs l vs h → os.all (fun o => !isBor o) = true → RpOs K H B (vs.map some) os A →
      RpO K H B (some (.ref a)) (.dp l os) (a :: A)
  | bor {v : V} {o : O} {A : List Addr} : RpO K H B (some v) o A → RpO K H B (some v) (.bor o) []
  | al {a : Addr} {p : List Nat} : RpO K H B (some (.ref a)) (.al a p) []
  | nm {a : Addr} {o : O} {A : List Addr} : isBor o = false → RpO K H B (some (.ref a)) o A → RpO K H B (some (.ref a)) (.nm a o) A
inductive RpOs (K : PySem.W.Frag) (H : Hp) (B : Addr → Prop) : List (Option V) → List O → List Addr → Prop
  | nil : RpOs K H B [] [] []
  | cons {x : Option V} {o : O} {xs : List (Option V)} {os : List O} {A A' : List Addr} : RpO K H B x o A → RpOs K H B xs os A' → RpOs K H B (x :: xs) (o :: os) (A ++ A')
end

section
variable {K : PySem.W.Frag} {H H' : Hp} {B B' : Addr → Prop}

theorem KW.seqL {a : Addr} {xs : List V} (h : KW K .fzl a xs) : SqL K H a xs := .inr h
theorem KW.seqT {a : Addr} {xs : List V} (h : KW K .tup a xs) : SqT K H a xs := .inr h
theorem ShAt.seqL {a : Addr} {xs : List V} (h : ShAt K H B .lst a xs) : SqL K H a xs := by
  rcases h with ⟨_, u, r, e⟩ | h
  · rcases e with e | ⟨_, _, _, _, e⟩
    · have e' : u = .lst xs := e
      rw [e'] at r
      exact .inl (.inl r)
    · cases e
  · exact (show False from h).elim
theorem ShAt.lstAt {a : Addr} {xs : List V} (h : ShAt K H B .lst a xs) : H a = some (.lst xs) := by
  rcases h with ⟨_, u, r, e⟩ | h
  · rcases e with e | ⟨_, _, _, _, e⟩
    · have e' : u = .lst xs := e
      rw [e'] at r
      exact r
    · cases e
  · exact (show False from h).elim
theorem ShAt.seqF {a : Addr} {xs : List V} (h : ShAt K H B .fzl a xs) : SqL K H a xs := by
  rcases h with ⟨_, u, r, e⟩ | h
  · rcases e with ⟨o, e⟩ | ⟨_, _, _, _, e⟩
    · rw [e] at r
      exact .inl (.inr ⟨o, r⟩)
    · cases e
  · exact .inr h
theorem ShAt.seqT {a : Addr} {xs : List V} (h : ShAt K H B .tup a xs) : SqT K H a xs := by
  rcases h with ⟨_, u, r, e⟩ | h
  · rcases e with e | ⟨_, _, _, _, e⟩
    · have e' : u = .tup xs := e
      rw [e'] at r
      exact .inl (.inl r)
    · cases e
  · exact .inr h

/-- what shared data ask of a step -/
def Keep (H H' : Hp) (B B' : Addr → Prop) : Prop := ∀ a h, ¬ B a → H a = some h → ¬ B' a ∧ ∃ h', H' a = some h' ∧ Lk h h'
theorem Keep.here (h : ∀ a, B' a → B a) : Keep H H B B' := fun a u n e => ⟨fun z => n (h a z), u, e, .inl rfl⟩
theorem Keep.same (hp : Same H H') (h : ∀ a u, ¬ B a → H a = some u → ¬ B' a) : Keep H H' B B' := fun a u n e => ⟨h a u n e, u, hp a u e, .inl rfl⟩
theorem ShAt.keep (k : Keep H H' B B') {l : Lab} {a : Addr} {vs : List V} (h : ShAt K H B l a vs) : ShAt K H' B' l a vs := by
  rcases h with ⟨nb, u, r, e⟩ | h
  · obtain ⟨n, u', r', l'⟩ := k a u nb r
    exact .inl ⟨n, u', r', e.lk l'⟩
  · refine .inr ?_
    cases l with
    | exc a0 d C fs =>
      obtain ⟨e1, nb, e2, e3⟩ := h
      obtain ⟨n, u', r', l'⟩ := k d _ nb e3
      refine ⟨e1, n, e2, ?_⟩
      rw [r']
      rcases l' with e | ⟨o, e, z⟩ | ⟨o, e, z⟩
      · rw [e]
      · cases z
      · cases e
    | _ => exact h
mutual
theorem RpS.keep (k : Keep H H' B B') : ∀ (d : D) {v : V}, RpS K H B v d → RpS K H' B' v d
  | .sc s, _, h => by cases h; exact .sc s
  | .nd l cs, _, h => by
    cases h with
    | nd h1 h2 => exact .nd (h1.keep k) (RpSs.keep k cs h2)
theorem RpSs.keep (k : Keep H H' B B') : ∀ (ds : List D) {vs : List V}, RpSs K H B vs ds → RpSs K H' B' vs ds
  | [], _, h => by cases h; exact .nil
  | d :: ds, _, h => by
    cases h with
    | cons h1 h2 => exact .cons (RpS.keep k d h1) (RpSs.keep k ds h2)
end
/-- borrowed views fall -/
def kill : O → O
  | .bor _ => .top
  | o => o
mutual
theorem RpO.keep (k : Keep H H' B B') : ∀ (o : O) {x : Option V} {A : List Addr}, isBor o = false → RpO K H B x o A → (∀ a ∈ A, H' a = H a) → RpO K H' B' x o A
  | .top, _, _, _, h, _ => by cases h; exact .top
  | .pin v, _, _, _, h, _ => by cases h; exact .pin
  | .al a p, _, _, _, h, _ => by cases h; exact .al
  | .nm a o, _, _, _, h, hA => by
    cases h with
    | nm h1 h2 => exact .nm h1 (RpO.keep k o h1 h2 hA)
  | .sh d, _, _, _, h, _ => by
    cases h with
    | sh h1 => exact .sh (RpS.keep k d h1)
  | .ow l ds, _, _, _, h, hA => by
    cases h with
    | ow h1 h2 h4 => exact .ow ((hA _ (List.mem_singleton.mpr rfl)).trans h1) h2 (RpSs.keep k ds h4)
  | .dp l os, _, _, _, h, hA => by
    cases h with
    | dp h1 h2 hb h4 => exact .dp ((hA _ List.mem_cons_self).trans h1) h2 hb (RpOs.keep k os hb h4 fun a ha => hA a (List.mem_cons_of_mem _ ha))
  | .bor o, _, _, hb, _, _ => by cases hb
theorem RpOs.keep (k : Keep H H' B B') : ∀ (os : List O) {xs : List (Option V)} {A : List Addr}, os.all (fun o => !isBor o) = true → RpOs K H B xs os A → (∀ a ∈ A, H' a = H a) → RpOs K H' B' xs os A
  | [], _, _, _, h, _ => by cases h; exact .nil
  | o :: os, _, _, hb, h, hA => by
    cases h with
    | cons h1 h2 =>
      rw [List.all_cons, Bool.and_eq_true] at hb
      have hb1 : isBor o = false := by
        have := hb.1
        cases e : isBor o with
        | false => rfl
        | true => rw [e] at this; cases this
      exact .cons (RpO.keep k o hb1 h1 fun a ha => hA a (List.mem_append_left _ ha)) (RpOs.keep k os hb.2 h2 fun a ha => hA a (List.mem_append_right _ ha))
end
theorem RpO.killed (k : Keep H H' B B') {o : O} {x : Option V} {A : List Addr} (h : RpO K H B x o A) (hA : ∀ a ∈ A, H' a = H a) : RpO K H' B' x (kill o) A := by
  cases e : isBor o with
  | false =>
    have e2 : kill o = o := by
      cases o <;> first | rfl | cases e
    rw [e2]
    exact RpO.keep k o e h hA
  | true =>
    cases o with
    | bor o =>
      cases h
      exact .top
    | _ => cases e
mutual
theorem RpO.tracked : ∀ (o : O) {x : Option V} {A : List Addr}, RpO K H B x o A → ∀ a ∈ A, ∃ u, H a = some u
  | .top, _, _, h, a, ha => by cases h; cases ha
  | .pin v, _, _, h, a, ha => by cases h; cases ha
  | .al b p, _, _, h, a, ha => by cases h; cases ha
  | .nm b o, _, _, h, a, ha => by
    cases h with
    | nm h1 h2 => exact RpO.tracked o h2 a ha
  | .sh d, _, _, h, a, ha => by cases h; cases ha
  | .ow l ds, _, _, h, a, ha => by
    cases h with
    | ow h1 h2 h4 =>
      rw [List.mem_singleton.mp ha]
      exact ⟨_, h1⟩
  | .dp l os, _, _, h, a, ha => by
    cases h with
    | dp h1 h2 hb h4 =>
      rcases List.mem_cons.mp ha with e | ha
      · rw [e]
        exact ⟨_, h1⟩
      · exact RpOs.tracked os h4 a ha
  | .bor o, _, _, h, a, ha => by cases h; cases ha
theorem RpOs.tracked : ∀ (os : List O) {xs : List (Option V)} {A : List Addr}, RpOs K H B xs os A → ∀ a ∈ A, ∃ u, H a = some u
  | [], _, _, h, a, ha => by cases h; cases ha
  | o :: os, _, _, h, a, ha => by
    cases h with
    | cons h1 h2 =>
      rcases List.mem_append.mp ha with ha | ha
      · exact RpO.tracked o h1 a ha
      · exact RpOs.tracked os h2 a ha
end
theorem Same.at_ (hp : Same H H') {a : Addr} (h : ∃ u, H a = some u) : H' a = H a := by
  obtain ⟨u, e⟩ := h
  rw [e, hp _ _ e]
/-- nothing that was tracked has changed -/
theorem RpO.pure (k : Keep H H' B B') (hp : Same H H') : ∀ (o : O) {x : Option V} {A : List Addr}, RpO K H B x o A → RpO K H' B' x o A
  | .bor o, _, _, h => by
    cases h with
    | bor h1 => exact .bor (RpO.pure k hp o h1)
  | .top, _, _, h => RpO.keep k .top rfl h fun a ha => Same.at_ hp (RpO.tracked _ h a ha)
  | .pin v, _, _, h => RpO.keep k (.pin v) rfl h fun a ha => Same.at_ hp (RpO.tracked _ h a ha)
  | .al b p, _, _, h => RpO.keep k (.al b p) rfl h fun a ha => Same.at_ hp (RpO.tracked _ h a ha)
  | .nm b o, _, _, h => RpO.keep k (.nm b o) rfl h fun a ha => Same.at_ hp (RpO.tracked _ h a ha)
  | .sh d, _, _, h => RpO.keep k (.sh d) rfl h fun a ha => Same.at_ hp (RpO.tracked _ h a ha)
  | .ow l ds, _, _, h => RpO.keep k (.ow l ds) rfl h fun a ha => Same.at_ hp (RpO.tracked _ h a ha)
  | .dp l os, _, _, h => RpO.keep k (.dp l os) rfl h fun a ha => Same.at_ hp (RpO.tracked _ h a ha)
theorem RpOs.pure (k : Keep H H' B B') (hp : Same H H') : ∀ (os : List O) {xs : List (Option V)} {A : List Addr}, RpOs K H B xs os A → RpOs K H' B' xs os A
  | [], _, _, h => by cases h; exact .nil
  | o :: os, _, _, h => by
    cases h with
    | cons h1 h2 => exact .cons (RpO.pure k hp o h1) (RpOs.pure k hp os h2)
theorem RpOs.killed (k : Keep H H' B B') : ∀ (os : List O) {xs : List (Option V)} {A : List Addr}, RpOs K H B xs os A → (∀ a ∈ A, H' a = H a) → RpOs K H' B' xs (os.map kill) A
  | [], _, _, h, _ => by cases h; exact .nil
  | o :: os, _, _, h, hA => by
    cases h with
    | cons h1 h2 => exact .cons (h1.killed k fun a ha => hA a (List.mem_append_left _ ha)) (RpOs.killed k os h2 fun a ha => hA a (List.mem_append_right _ ha))
theorem RpOs.length : ∀ {os : List O} {xs : List (Option V)} {A : List Addr}, RpOs K H B xs os A → xs.length = os.length
  | [], _, _, h => by cases h; rfl
  | o :: os, _, _, h => by
    cases h with
    | cons h1 h2 => rw [List.length_cons, List.length_cons, RpOs.length h2]
theorem RpOs.app : ∀ {os : List O} {xs : List (Option V)} {A : List Addr} {os' : List O} {xs' : List (Option V)} {A' : List Addr}, RpOs K H B xs os A → RpOs K H B xs' os' A' → RpOs K H B (xs ++ xs') (os ++ os') (A ++ A')
  | [], _, _, _, _, _, h, h' => by cases h; exact h'
  | o :: os, _, _, _, _, _, h, h' => by
    cases h with
    | cons h1 h2 =>
      rw [List.append_assoc]
      exact .cons h1 (RpOs.app h2 h')
theorem RpOs.split : ∀ {xs : List (Option V)} {os : List O} {A : List Addr} {xs' : List (Option V)} {os' : List O}, RpOs K H B (xs ++ xs') (os ++ os') A → xs.length = os.length → ∃ A1 A2, A = A1 ++ A2 ∧ RpOs K H B xs os A1 ∧ RpOs K H B xs' os' A2
  | [], [], A, _, _, h, _ => ⟨[], A, rfl, .nil, h⟩
  | [], _ :: _, _, _, _, _, e => by cases e
  | _ :: _, [], _, _, _, _, e => by cases e
  | x :: xs, o :: os, _, _, _, h, e => by
    have h0 : RpOs K H B (x :: (xs ++ _)) (o :: (os ++ _)) _ := h
    cases h0 with
    | cons h1 h2 =>
      obtain ⟨A1, A2, e1, p1, p2⟩ := RpOs.split (xs := xs) (os := os) h2 (by simpa using e)
      exact ⟨_ ++ A1, A2, by rw [e1, List.append_assoc], .cons h1 p1, p2⟩
theorem RpOs.get : ∀ {os : List O} {xs : List (Option V)} {A : List Addr} {i : Nat} {o : O}, RpOs K H B xs os A → os[i]? = some o → ∃ x A', xs[i]? = some x ∧ RpO K H B x o A' ∧ ∀ a ∈ A', a ∈ A
  | [], _, _, _, _, _, e => by simp at e
  | o :: os, _, _, 0, _, h, e => by
    cases h with
    | cons h1 h2 =>
      cases e
      exact ⟨_, _, rfl, h1, fun a ha => List.mem_append_left _ ha⟩
  | o :: os, _, _, i + 1, _, h, e => by
    cases h with
    | cons h1 h2 =>
      obtain ⟨x, A', e1, p, q⟩ := RpOs.get (i := i) h2 (by simpa using e)
      exact ⟨x, A', by simpa using e1, p, fun a ha => List.mem_append_right _ (q a ha)⟩
/-- one place is exchanged -/
theorem RpOs.set : ∀ {os : List O} {xs : List (Option V)} {A : List Addr} {i : Nat} {o : O}, RpOs K H B xs os A → os[i]? = some o → ∃ x A1 A' A2, A = A1 ++ A' ++ A2 ∧ xs[i]? = some x ∧ RpO K H B x o A' ∧
    ∀ (y : Option V) (o' : O) (A'' : List Addr), RpO K H B y o' A'' → RpOs K H B (xs.set i y) (os.set i o') (A1 ++ A'' ++ A2)
  | [], _, _, _, _, _, e => by simp at e
  | o :: os, _, _, 0, _, h, e => by
    cases h with
    | cons h1 h2 =>
      cases e
      exact ⟨_, [], _, _, by rw [List.nil_append], rfl, h1, fun y o' A'' p => by rw [List.nil_append]; exact .cons p h2⟩
  | o :: os, _, _, i + 1, _, h, e => by
    cases h with
    | @cons _ _ _ _ A0 _ h1 h2 =>
      obtain ⟨x, A1, A', A2, e0, e1, p, q⟩ := RpOs.set (i := i) h2 (by simpa using e)
      refine ⟨x, A0 ++ A1, A', A2, by rw [e0]; simp only [List.append_assoc], by simpa using e1, p, fun y o' A'' p' => ?_⟩
      have := RpOs.cons h1 (q y o' A'' p')
      simp only [List.append_assoc] at this ⊢
      exact this

/-! ### the relation: owned addresses AA, beside those of others S -/
structure RelA (K : PySem.W.Frag) (S : Addr → Prop) (AA : List Addr) (H : Hp) (xs : List (Option V)) (os : List O) : Prop where
  rp : RpOs K H (fun a => S a ∨ a ∈ AA) xs os AA
  nd : AA.Nodup
  ns : ∀ a ∈ AA, ¬ S a
  st : ∀ a, S a → ∃ u, H a = some u
/-- a step by those who own AA -/
structure Ext (AA : List Addr) (H : Hp) (AA' : List Addr) (H' : Hp) : Prop where
  keep : ∀ a h, H a = some h → ∃ h', H' a = some h' ∧ (a ∉ AA → h' = h)
  new : ∀ a ∈ AA', H a = none ∨ a ∈ AA
theorem Ext.refl {AA : List Addr} {H : Hp} : Ext AA H AA H := ⟨fun a h e => ⟨h, e, fun _ => rfl⟩, fun a h => .inr h⟩
theorem Ext.trans {A0 A1 A2 : List Addr} {H0 H1 H2 : Hp} (x : Ext A0 H0 A1 H1) (y : Ext A1 H1 A2 H2) : Ext A0 H0 A2 H2 := by
  refine ⟨fun a h e => ?_, fun a ha => ?_⟩
  · obtain ⟨h1, e1, k1⟩ := x.keep a h e
    obtain ⟨h2, e2, k2⟩ := y.keep a h1 e1
    refine ⟨h2, e2, fun na => ?_⟩
    have n1 : a ∉ A1 := fun z => by
      rcases x.new a z with z | z
      · rw [z] at e; cases e
      · exact na z
    rw [k2 n1, k1 na]
  · rcases y.new a ha with z | z
    · refine .inl ?_
      cases e : H0 a with
      | none => rfl
      | some u =>
        obtain ⟨u', e', _⟩ := x.keep a u e
        rw [z] at e'; cases e'
    · exact x.new a z
theorem Ext.sub {A0 A1 A2 : List Addr} {H0 H1 : Hp} (x : Ext A0 H0 A1 H1) (h : ∀ a ∈ A2, a ∈ A1) : Ext A0 H0 A2 H1 := ⟨x.keep, fun a ha => x.new a (h a ha)⟩
theorem Ext.same {AA AA' : List Addr} {H H' : Hp} (hp : Same H H') (hn : ∀ a ∈ AA', H a = none ∨ a ∈ AA) : Ext AA H AA' H' := ⟨fun a h e => ⟨h, hp a h e, fun _ => rfl⟩, hn⟩
/-- what others have stays -/
theorem Ext.at_ {AA AA' : List Addr} {H H' : Hp} (x : Ext AA H AA' H') {a : Addr} (t : ∃ u, H a = some u) (n : a ∉ AA) : H' a = H a := by
  obtain ⟨u, e⟩ := t
  obtain ⟨u', e', k⟩ := x.keep a u e
  rw [e', k n, e]
theorem Ext.keeps {S : Addr → Prop} {AA AA' T : List Addr} {H H' : Hp} (x : Ext AA H AA' H') : Keep H H' (fun a => S a ∨ a ∈ T ++ AA) (fun a => S a ∨ a ∈ T ++ AA') := by
  intro a h nb r
  have t : ∃ u, H a = some u := ⟨h, r⟩
  have n1 : a ∉ AA := fun z => nb (.inr (List.mem_append_right _ z))
  refine ⟨fun z => ?_, h, by rw [x.at_ t n1, r], .inl rfl⟩
  rcases z with z | z
  · exact nb (.inl z)
  · rcases List.mem_append.mp z with z | z
    · exact nb (.inr (List.mem_append_left _ z))
    · rcases x.new a z with e | e
      · rw [e] at r; cases r
      · exact n1 e
theorem RpOs.congr {B B' : Addr → Prop} (h : ∀ a, B a ↔ B' a) {xs : List (Option V)} {os : List O} {A : List Addr} (r : RpOs K H B xs os A) : RpOs K H B' xs os A := by
  have e : B = B' := funext fun a => propext (h a)
  rw [← e]
  exact r

/-- the temps ts (owning T) ahead of the rest: the rest by itself -/
theorem RelA.tail {K : PySem.W.Frag} {S : Addr → Prop} {AA : List Addr} {H : Hp} {ts xs : List (Option V)} {us os : List O} (r : RelA K S AA H (ts ++ xs) (us ++ os)) (hl : ts.length = us.length) :
    ∃ T A, AA = T ++ A ∧ RpOs K H (fun a => S a ∨ a ∈ T ++ A) ts us T ∧ RelA K (fun a => S a ∨ a ∈ T) A H xs os ∧ T.Nodup ∧ (∀ a ∈ T, ¬ S a) := by
  obtain ⟨T, A, e, h1, h2⟩ := r.rp.split hl
  subst e
  obtain ⟨n1, n2, n3⟩ := List.nodup_append.mp r.nd
  refine ⟨T, A, rfl, h1, ⟨h2.congr fun a => ?_, n2, fun a ha z => ?_, fun a ha => ?_⟩, n1, fun a ha => r.ns a (List.mem_append_left _ ha)⟩
  · rw [List.mem_append, or_assoc]
  · rcases z with z | z
    · exact r.ns a (List.mem_append_right _ ha) z
    · exact n3 a z a ha rfl
  · rcases ha with ha | ha
    · exact r.st a ha
    · exact h1.tracked us a ha
/-- .. and together again, behind a step of the rest -/
theorem RelA.join {K : PySem.W.Frag} {S : Addr → Prop} {T A A' : List Addr} {H H' : Hp} {ts xs' : List (Option V)} {us us' os' : List O} (h1 : RpOs K H (fun a => S a ∨ a ∈ T ++ A) ts us T) (nT : T.Nodup) (nS : ∀ a ∈ T, ¬ S a)
    (dis : ∀ a ∈ T, a ∉ A) (x : Ext A H A' H') (r : RelA K (fun a => S a ∨ a ∈ T) A' H' xs' os') (hu : us' = us.map kill ∨ (us' = us ∧ Same H H')) : RelA K S (T ++ A') H' (ts ++ xs') (us' ++ os') := by
  have k : Keep H H' (fun a => S a ∨ a ∈ T ++ A) (fun a => S a ∨ a ∈ T ++ A') := x.keeps
  have hT : ∀ a ∈ T, H' a = H a := fun a ha => x.at_ (h1.tracked us a ha) (dis a ha)
  have p : RpOs K H' (fun a => S a ∨ a ∈ T ++ A') ts us' T := by
    rcases hu with e | ⟨e, hp⟩
    · rw [e]
      exact h1.killed k us hT
    · rw [e]
      exact h1.pure k hp us
  refine ⟨p.app (r.rp.congr fun a => ?_), List.nodup_append.mpr ⟨nT, r.nd, fun a ha b hb e => ?_⟩, fun a ha => ?_, fun a ha => r.st a (.inl ha)⟩
  · rw [List.mem_append, or_assoc]
  · subst e
    exact r.ns a hb (.inr ha)
  · rcases List.mem_append.mp ha with ha | ha
    · exact nS a ha
    · exact fun z => r.ns a ha (.inl z)
theorem Ext.front {T A A' : List Addr} {H H' : Hp} (x : Ext A H A' H') : Ext (T ++ A) H (T ++ A') H' := by
  refine ⟨fun a h e => ?_, fun a ha => ?_⟩
  · obtain ⟨h', e', k⟩ := x.keep a h e
    exact ⟨h', e', fun n => k fun z => n (List.mem_append_right _ z)⟩
  · rcases List.mem_append.mp ha with ha | ha
    · exact .inr (List.mem_append_left _ ha)
    · rcases x.new a ha with e | e
      · exact .inl e
      · exact .inr (List.mem_append_right _ e)
end
end VL

namespace VL
open PySem PySem.Spec L2

/-! ### views -/
mutual
def view : O → Option D
  | .top => none
  | .pin _ => none
  | .al _ _ => none
  | .nm _ o => view o
  | .sh d => some d
  | .ow l cs => some (.nd l cs)
  | .dp l os => match viewL os with
    | some ds => some (.nd l ds)
    | none => none
  | .bor o => view o
def viewL : List O → Option (List D)
  | [] => some []
  | o :: os => match view o with
    | some d => match viewL os with
      | some ds => some (d :: ds)
      | none => none
    | none => none
end
/-- nothing is owned by others: readable as it stands -/
abbrev NB : Addr → Prop := fun _ => False
section
variable {K : PySem.W.Frag} {H : Hp} {B : Addr → Prop}
theorem keepNB : Keep H H B NB := Keep.here fun _ z => z.elim
mutual
theorem RpO.read : ∀ (o : O) {v : V} {A : List Addr} {d : D}, RpO K H B (some v) o A → view o = some d → RpS K H NB v d
  | .top, _, _, _, _, e => by cases e
  | .pin _, _, _, _, _, e => by cases e
  | .al _ _, _, _, _, _, e => by cases e
  | .nm b o, _, _, _, h, e => by
    cases h with
    | nm h1 h2 => exact RpO.read o h2 e
  | .sh d, _, _, _, h, e => by
    cases e
    cases h with
    | sh h1 => exact h1.keep keepNB
  | .ow l cs, _, _, _, h, e => by
    cases e
    cases h with
    | ow h1 h2 h4 => exact .nd (.inl ⟨fun z => z, _, h1, .inl h2⟩) (h4.keep keepNB)
  | .dp l os, _, _, _, h, e => by
    have e0 : (match viewL os with | some ds => some (D.nd l ds) | none => none) = some _ := e
    cases e1 : viewL os with
    | none => rw [e1] at e0; cases e0
    | some ds =>
      rw [e1] at e0
      cases e0
      cases h with
      | dp h1 h2 hb h4 => exact .nd (.inl ⟨fun z => z, _, h1, .inl h2⟩) (RpOs.read os h4 e1)
  | .bor o, _, _, _, h, e => by
    cases h with
    | bor h1 => exact RpO.read o h1 e
theorem RpOs.read : ∀ (os : List O) {vs : List V} {A : List Addr} {ds : List D}, RpOs K H B (vs.map some) os A → viewL os = some ds → RpSs K H NB vs ds
  | [], vs, _, _, h, e => by
    cases e
    cases vs with
    | nil => exact .nil
    | cons v vs => cases h
  | o :: os, vs, _, _, h, e => by
    have e0 : (match view o with | some d => (match viewL os with | some ds => some (d :: ds) | none => none) | none => none) = some _ := e
    cases e1 : view o with
    | none => rw [e1] at e0; cases e0
    | some d =>
      rw [e1] at e0
      cases e2 : viewL os with
      | none => rw [e2] at e0; cases e0
      | some ds =>
        rw [e2] at e0
        cases e0
        cases vs with
        | nil => cases h
        | cons v vs =>
          have h' : RpOs K H B (some v :: vs.map some) (o :: os) _ := h
          cases h' with
          | cons h1 h2 => exact .cons (RpO.read o h1 e1) (RpOs.read os h2 e2)
end
end
def vw (o : O) (k : D → Prop) : Prop := match view o with
  | some d => k d
  | none => False
theorem vw_of {o : O} {k : D → Prop} (h : vw o k) : ∃ d, view o = some d ∧ k d := by
  unfold vw at h
  cases e : view o with
  | none => rw [e] at h; exact h.elim
  | some d => rw [e] at h; exact ⟨d, rfl, h⟩

/-! ### judgements -/
structure Exc where
  C : Addr
  f : Option (Str × D)
abbrev Env := List O
abbrev XP := Exc → Env → Prop
abbrev VE := Env → (O → Env → Prop) → XP → Prop
abbrev VT := Env → (Bool → Env → Prop) → XP → Prop
abbrev VA := Env → (List O → Env → Prop) → XP → Prop
structure VK where
  nx : Env → Prop
  rt : O → Env → Prop
  bk : Env → Prop := fun _ => False
  ct : Env → Prop := fun _ => False
abbrev VS := Env → VK → XP → Prop
def XRep (K : PySem.W.Frag) (B : Addr → Prop) (H : Hp) (cls : Value) (d : Option Addr) (e : Exc) : Prop :=
  cls = .ref e.C ∧ match e.f with
    | none => d = none
    | some (f, x) => ∃ a v, d = some a ∧ ¬ B a ∧ H a = some (.xd [(f, v)]) ∧ RpS K H B v x
def LinkE (K : PySem.W.Frag) (S : Addr → Prop) (AA : List Addr) (H : Hp) (W : WX) (σ : St) (ε : XP) : Prop :=
  ∀ cls d H' ρ' exc AA', RelA K S AA' H' σ ρ' → Ext AA H AA' H' → XRep K (fun a => S a ∨ a ∈ AA') H' cls d exc → ε exc ρ' → W cls d σ H'
def StOk (io : List Nat) (σ σ' : St) : Prop := σ'.length = σ.length ∧ ∀ i ∈ io, σ'[i]? = σ[i]?
def LinkS (K : PySem.W.Frag) (S : Addr → Prop) (AA : List Addr) (H : Hp) (W : WX) (io : List Nat) (σ : St) (ε : XP) : Prop :=
  ∀ σ' cls d H' ρ' exc AA', StOk io σ σ' → RelA K S AA' H' σ' ρ' → Ext AA H AA' H' → XRep K (fun a => S a ∨ a ∈ AA') H' cls d exc → ε exc ρ' → W cls d σ' H'
theorem StOk.refl {io : List Nat} {σ : St} : StOk io σ σ := ⟨rfl, fun _ _ => rfl⟩
theorem StOk.trans {io : List Nat} {σ σ1 σ2 : St} (a : StOk io σ σ1) (b : StOk io σ1 σ2) : StOk io σ σ2 := ⟨b.1.trans a.1, fun i hi => (b.2 i hi).trans (a.2 i hi)⟩
theorem LinkS.e {K : PySem.W.Frag} {S : Addr → Prop} {AA : List Addr} {H : Hp} {W : WX} {io : List Nat} {σ : St} {ε : XP} (l : LinkS K S AA H W io σ ε) : LinkE K S AA H W σ ε :=
  fun cls d H' ρ' exc AA' r x y z => l σ cls d H' ρ' exc AA' .refl r x y z
theorem LinkS.step {K : PySem.W.Frag} {S : Addr → Prop} {AA AA1 : List Addr} {H H1 : Hp} {W : WX} {io : List Nat} {σ σ1 : St} {ε : XP} (l : LinkS K S AA H W io σ ε) (o : StOk io σ σ1) (x : Ext AA H AA1 H1) : LinkS K S AA1 H1 W io σ1 ε :=
  fun σ' cls d H' ρ' exc AA' so r x' y z => l σ' cls d H' ρ' exc AA' (o.trans so) r (x.trans x') y z
theorem LinkE.step {K : PySem.W.Frag} {S : Addr → Prop} {AA AA1 : List Addr} {H H1 : Hp} {W : WX} {σ : St} {ε : XP} (l : LinkE K S AA H W σ ε) (x : Ext AA H AA1 H1) : LinkE K S AA1 H1 W σ ε :=
  fun cls d H' ρ' exc AA' r x' y z => l cls d H' ρ' exc AA' r (x.trans x') y z

section
variable {K : PySem.W.Frag} {H : Hp} {S S' : Addr → Prop} {A : List Addr}
theorem keepLess (h : ∀ a, S a → S' a) : Keep H H (fun a => S' a ∨ a ∈ A) (fun a => S a ∨ a ∈ A) := Keep.here fun a z => z.imp_left (h a)
theorem RelA.less {xs : List (Option V)} {os : List O} (r : RelA K S' A H xs os) (h : ∀ a, S a → S' a) : RelA K S A H xs os :=
  ⟨RpOs.pure (keepLess h) (Same.refl H) _ r.rp, r.nd, fun a ha z => r.ns a ha (h a z), fun a ha => r.st a (h a ha)⟩
theorem XRep.less {cls : Value} {d : Option Addr} {e : Exc} (x : XRep K (fun a => S' a ∨ a ∈ A) H cls d e) (h : ∀ a, S a → S' a) : XRep K (fun a => S a ∨ a ∈ A) H cls d e := by
  obtain ⟨h1, h2⟩ := x
  refine ⟨h1, ?_⟩
  cases e : e.f with
  | none =>
    rw [e] at h2
    exact h2
  | some p =>
    obtain ⟨f, x⟩ := p
    rw [e] at h2
    obtain ⟨a, v, q1, nb, q2, q3⟩ := h2
    exact ⟨a, v, q1, fun z => nb (z.imp_left (h a)), q2, q3.keep (keepLess h)⟩
end
/-- a step that is not pure lets borrowed temps fall -/
def kl : Bool → O → O
  | true, o => o
  | false, o => kill o
theorem map_kl_true (os : List O) : os.map (kl true) = os := by
  have e : (kl true) = id := rfl
  rw [e, List.map_id]
/-- the rest is run under the temps ts -/
theorem RelA.under {K : PySem.W.Frag} {S : Addr → Prop} {AA : List Addr} {H : Hp} {ts xs : List (Option V)} {us os : List O} (r : RelA K S AA H (ts ++ xs) (us ++ os)) (hl : ts.length = us.length) (p : Bool) :
    ∃ T A, AA = T ++ A ∧ RelA K (fun a => S a ∨ a ∈ T) A H xs os ∧ ∀ A' H' xs' os', Ext A H A' H' → RelA K (fun a => S a ∨ a ∈ T) A' H' xs' os' → (p = true → Same H H') →
      RelA K S (T ++ A') H' (ts ++ xs') (us.map (kl p) ++ os') ∧ Ext AA H (T ++ A') H' := by
  obtain ⟨T, A, e, h1, h2, nT, nS⟩ := r.tail hl
  subst e
  have dis : ∀ a ∈ T, a ∉ A := fun a ha hb => (List.nodup_append.mp r.nd).2.2 a ha a hb rfl
  refine ⟨T, A, rfl, h2, fun A' H' xs' os' x r' hp => ⟨RelA.join h1 nT nS dis x r' ?_, x.front⟩⟩
  cases p with
  | true => exact .inr ⟨map_kl_true us, hp rfl⟩
  | false => exact .inl rfl
theorem LinkE.under {K : PySem.W.Frag} {S : Addr → Prop} {T A : List Addr} {H : Hp} {W : WX} {σ : St} {ε : XP} (l : LinkE K S (T ++ A) H W σ ε) : LinkE K (fun a => S a ∨ a ∈ T) A H W σ ε :=
  fun cls d H' ρ' exc AA' r x y z => by
    have x2 : Ext (T ++ A) H AA' H' := by
      have := (x.front (T := T)).sub (A2 := AA') fun a ha => List.mem_append_right _ ha
      exact this
    exact l cls d H' ρ' exc AA' (r.less fun a h => .inl h) x2 (y.less fun a h => .inl h) z

def SndE (K : PySem.W.Frag) (W : WX) (p : Bool) (t : TE) (r : VE) : Prop := ∀ (S : Addr → Prop) (AA : List Addr) (H : Hp) (σ : St) (ρ : Env) (φ : O → Env → Prop) (ε : XP) (Q : L2.VK), RelA K S AA H σ ρ → LinkE K S AA H W σ ε →
  (∀ v H' o ρ' AA', φ o ρ' → RelA K S AA' H' (some v :: σ) (o :: ρ') → Ext AA H AA' H' → (p = true → ρ' = ρ ∧ Same H H') → Q v H') → r ρ φ ε → t σ H Q
def SndT (K : PySem.W.Frag) (W : WX) (p : Bool) (t : TT) (r : VT) : Prop := ∀ (S : Addr → Prop) (AA : List Addr) (H : Hp) (σ : St) (ρ : Env) (φ : Bool → Env → Prop) (ε : XP) (Q : Bool → Hp → Prop), RelA K S AA H σ ρ → LinkE K S AA H W σ ε →
  (∀ b H' ρ' AA', φ b ρ' → RelA K S AA' H' σ ρ' → Ext AA H AA' H' → (p = true → ρ' = ρ ∧ Same H H') → Q b H') → r ρ φ ε → t σ H Q
def SndA (K : PySem.W.Frag) (W : WX) (p : Bool) (t : TA) (r : VA) : Prop := ∀ (S : Addr → Prop) (AA : List Addr) (H : Hp) (σ : St) (ρ : Env) (φ : List O → Env → Prop) (ε : XP) (Q : List V → Hp → Prop), RelA K S AA H σ ρ → LinkE K S AA H W σ ε →
  (∀ vs H' os ρ' AA', φ os ρ' → vs.length = os.length → RelA K S AA' H' (vs.map some ++ σ) (os ++ ρ') → Ext AA H AA' H' → (p = true → ρ' = ρ ∧ Same H H') → Q vs H') → r ρ φ ε → t σ H Q
def SndS (K : PySem.W.Frag) (W : WX) (io : List Nat) (t : TS) (r : VS) : Prop := ∀ (S : Addr → Prop) (AA : List Addr) (H : Hp) (σ : St) (ρ : Env) (k : VK) (ε : XP) (D : Ends), RelA K S AA H σ ρ → LinkS K S AA H W io σ ε →
  (∀ σ' H' ρ' AA', k.nx ρ' → StOk io σ σ' → RelA K S AA' H' σ' ρ' → Ext AA H AA' H' → D.nx σ' H') →
  (∀ v σ' H' o ρ' AA', k.rt o ρ' → StOk io σ σ' → RelA K S AA' H' (some v :: σ') (o :: ρ') → Ext AA H AA' H' → D.rt v H') →
  (∀ σ' H' ρ' AA', k.bk ρ' → StOk io σ σ' → RelA K S AA' H' σ' ρ' → Ext AA H AA' H' → D.bk σ' H') →
  (∀ σ' H' ρ' AA', k.ct ρ' → StOk io σ σ' → RelA K S AA' H' σ' ρ' → Ext AA H AA' H' → D.ct σ' H') → r ρ k ε → t D σ H

structure Ev (X : Cx) (W : WX) (p : Bool) (e : Expr) (r : VE) : Prop where
  ex : ∃ t, PE X e t ∧ SndE X.K W p t r
structure Tv (X : Cx) (W : WX) (p : Bool) (e : Expr) (r : VT) : Prop where
  ex : ∃ t, PT X e t ∧ SndT X.K W p t r
/-- a part of and, or -/
structure Wv (X : Cx) (W : WX) (p : Bool) (e : Expr) (r : VT) : Prop where
  ex : ∃ t, PW X e t ∧ SndT X.K W p t r
structure Av (X : Cx) (W : WX) (p : Bool) (es : List Expr) (r : VA) : Prop where
  ex : ∃ t, PA X es t ∧ SndA X.K W p t r
structure Sv (X : Cx) (W : WX) (io : List Nat) (st : Stmt) (r : VS) : Prop where
  ex : ∃ t, PS X st t ∧ SndS X.K W io t r
structure Bv (X : Cx) (W : WX) (io : List Nat) (st : List Stmt) (r : VS) : Prop where
  ex : ∃ t, PSs X st t ∧ SndS X.K W io t r
end VL

namespace VL
open PySem PySem.Spec L2

section
variable {K : PySem.W.Frag} {S : Addr → Prop} {AA : List Addr} {H : Hp}
/-- a root is dropped -/
theorem RelA.drop1 {x : Option V} {o : O} {xs : List (Option V)} {os : List O} (r : RelA K S AA H (x :: xs) (o :: os)) : ∃ AA', RelA K S AA' H xs os ∧ ∀ a ∈ AA', a ∈ AA := by
  obtain ⟨T, A, e, h1, h2, nT, nS⟩ := RelA.tail (ts := [x]) (us := [o]) r rfl
  subst e
  exact ⟨A, h2.less fun a h => .inl h, fun a ha => List.mem_append_right _ ha⟩
theorem RelA.dropN {xs : List (Option V)} {os : List O} : ∀ {ts : List (Option V)} {us : List O} {AA : List Addr}, RelA K S AA H (ts ++ xs) (us ++ os) → ts.length = us.length → ∃ AA', RelA K S AA' H xs os ∧ ∀ a ∈ AA', a ∈ AA
  | [], [], AA, r, _ => ⟨AA, r, fun _ h => h⟩
  | _ :: _, [], _, _, e => by cases e
  | [], _ :: _, _, _, e => by cases e
  | t :: ts, u :: us, AA, r, e => by
    have r0 : RelA K S AA H (t :: (ts ++ xs)) (u :: (us ++ os)) := r
    obtain ⟨A1, r1, h1⟩ := r0.drop1
    obtain ⟨A2, r2, h2⟩ := RelA.dropN (ts := ts) (us := us) r1 (by simpa using e)
    exact ⟨A2, r2, fun a ha => h1 a (h2 a ha)⟩
/-- a root that owns nothing comes ahead -/
theorem RelA.push {x : Option V} {o : O} {xs : List (Option V)} {os : List O} (r : RelA K S AA H xs os) (h : RpO K H (fun a => S a ∨ a ∈ AA) x o []) : RelA K S AA H (x :: xs) (o :: os) :=
  ⟨.cons h r.rp, r.nd, r.ns, r.st⟩
theorem RelA.sc (s : Sc) {xs : List (Option V)} {os : List O} (r : RelA K S AA H xs os) : RelA K S AA H (some s.v :: xs) (.sh (.sc s) :: os) := r.push (.sh (.sc s))
theorem RelA.get {xs : List (Option V)} {os : List O} {i : Nat} {o : O} (r : RelA K S AA H xs os) (h : os[i]? = some o) : ∃ x A, xs[i]? = some x ∧ RpO K H (fun a => S a ∨ a ∈ AA) x o A := by
  obtain ⟨x, A, h1, h2, _⟩ := r.rp.get h
  exact ⟨x, A, h1, h2⟩
/-- the first root's data, readable -/
theorem RelA.read1 {v : V} {o : O} {xs : List (Option V)} {os : List O} {d : D} (r : RelA K S AA H (some v :: xs) (o :: os)) (h : view o = some d) : RpS K H NB v d := by
  obtain ⟨x, A, h1, h2⟩ := r.get (i := 0) rfl
  cases h1
  exact RpO.read o h2 h
theorem RelA.read2 {x : Option V} {u : O} {v : V} {o : O} {xs : List (Option V)} {os : List O} {d : D} (r : RelA K S AA H (x :: some v :: xs) (u :: o :: os)) (h : view o = some d) : RpS K H NB v d := by
  obtain ⟨x, A, h1, h2⟩ := r.get (i := 1) rfl
  cases h1
  exact RpO.read o h2 h
end
theorem view_kl {p : Bool} {o : O} {d : D} (h : view (kl p o) = some d) : view o = some d := by
  cases p with
  | true => exact h
  | false =>
    cases o with
    | bor o => cases h
    | _ => exact h

/-! ### names, constants -/
def envAt (ρ : Env) (i : Nat) : O := (ρ[i]?).getD .top
theorem envAt_some {ρ : Env} {i : Nat} {o : O} (h : envAt ρ i = o) (n : o ≠ .top) : ρ[i]? = some o := by
  unfold envAt at h
  cases e : ρ[i]? with
  | none =>
    rw [e] at h
    exact absurd h.symm n
  | some u =>
    rw [e] at h
    rw [← h]
    rfl
def rdO (o : O) (k : O → Prop) : Prop := match o with
  | .top => False
  | .pin _ => False
  | .al a p => k (.al a p)
  | .nm a o => k (.bor (.nm a o))
  | .sh d => k (.sh d)
  | .bor o => k (.bor o)
  | .ow l cs => k (.bor (.ow l cs))
  | .dp l os => k (.bor (.dp l os))
def vName (i : Nat) : VE := fun ρ φ _ => rdO (envAt ρ i) fun o => φ o ρ
def vC (s : Sc) : VE := fun ρ φ _ => φ (.sh (.sc s)) ρ
section
variable {K : PySem.W.Frag} {W : WX}
theorem snd_name (i : Nat) : SndE K W true (tVar i) (vName i) := by
  intro S AA H σ ρ φ ε Q r l hQ h
  have h0 : rdO (envAt ρ i) fun o => φ o ρ := h
  have go : ∀ (o u : O), envAt ρ i = o → o ≠ .top → φ u ρ → (∀ x A, RpO K H (fun a => S a ∨ a ∈ AA) x o A → ∃ v, x = some v ∧ RpO K H (fun a => S a ∨ a ∈ AA) (some v) u []) → tVar i σ H Q := by
    intro o u e n hu hr
    obtain ⟨x, A, h1, h2⟩ := r.get (envAt_some e n)
    obtain ⟨v, ev, h3⟩ := hr x A h2
    rw [ev] at h1
    exact ⟨v, h1, hQ v H u ρ AA hu (r.push h3) Ext.refl fun _ => ⟨rfl, Same.refl H⟩⟩
  cases e : envAt ρ i with
  | top => rw [e] at h0; exact h0.elim
  | pin v => rw [e] at h0; exact h0.elim
  | al a p =>
    rw [e] at h0
    refine go _ _ e (by intro z; cases z) h0 fun x A p => ?_
    cases p with
    | al => exact ⟨_, rfl, .al⟩
  | nm a o =>
    rw [e] at h0
    refine go _ _ e (by intro z; cases z) h0 fun x A p => ?_
    cases p with
    | nm a b => exact ⟨_, rfl, .bor (.nm a b)⟩
  | sh d =>
    rw [e] at h0
    refine go _ _ e (by intro z; cases z) h0 fun x A p => ?_
    cases p with
    | sh p => exact ⟨_, rfl, .sh p⟩
  | bor o =>
    rw [e] at h0
    refine go _ _ e (by intro z; cases z) h0 fun x A p => ?_
    cases p with
    | bor p => exact ⟨_, rfl, .bor p⟩
  | ow l cs =>
    rw [e] at h0
    refine go _ _ e (by intro z; cases z) h0 fun x A p => ?_
    cases p with
    | ow a b d => exact ⟨_, rfl, .bor (.ow a b d)⟩
  | dp l cs =>
    rw [e] at h0
    refine go _ _ e (by intro z; cases z) h0 fun x A p => ?_
    cases p with
    | dp a b d e => exact ⟨_, rfl, .bor (.dp a b d e)⟩
theorem snd_c {v : V} (s : Sc) (e : s.v = v) : SndE K W true (tC v) (vC s) := by
  subst e
  intro S AA H σ ρ φ ε Q r l hQ h
  exact hQ _ H _ ρ AA h (r.sc s) Ext.refl fun _ => ⟨rfl, Same.refl H⟩
end
section
variable {X : Cx} {W : WX} {e : Expr}
theorem ev_name {i : Nat} (h : PE X e (tVar i)) : Ev X W true e (vName i) := ⟨_, h, snd_name i⟩
theorem ev_c {v : V} (s : Sc) (h : PE X e (tC v)) (es : s.v = v) : Ev X W true e (vC s) := ⟨_, h, snd_c s es⟩
theorem ev_int {i : Int} {j pos} : Ev X W true (.Constant (.int i) j pos) (vC (.int i)) := ev_c (.int i) pe_int rfl
theorem ev_bl {b : Bool} {j pos} : Ev X W true (.Constant (.bool b) j pos) (vC (.bl b)) := ev_c (.bl b) pe_bl rfl
theorem ev_non {j pos} : Ev X W true (.Constant .none j pos) (vC .non) := ev_c .non pe_non rfl
theorem ev_str {x : Str} {j pos} : Ev X W true (.Constant (.str x) j pos) (vC (.str x)) := ev_c (.str x) pe_str rfl
end

/-! ### what temps hold -/
/-- an owned temp given away: shared from now on -/
def fz : O → Option D
  | .sh d => some d
  | .ow l cs => some (.nd l cs)
  | .dp l os => view (.dp l os)
  | .nm _ o => fz o
  | _ => none
def fzL : List O → Option (List D)
  | [] => some []
  | o :: os => match fz o with
    | some d => match fzL os with
      | some ds => some (d :: ds)
      | none => none
    | none => none
def shL : List O → Option (List D)
  | [] => some []
  | .sh d :: os => match shL os with
    | some ds => some (d :: ds)
    | none => none
  | _ :: _ => none
/-- a cell whose children are shared -/
def kids : O → Option (Lab × List D)
  | .sh (.nd l cs) => some (l, cs)
  | .ow l cs => some (l, cs)
  | .dp l os => match shL os with
    | some ds => some (l, ds)
    | none => none
  | .bor o => kids o
  | .nm _ o => kids o
  | _ => none
section
variable {K : PySem.W.Frag} {H : Hp} {B B' : Addr → Prop}
mutual
theorem RpO.frozen (kb : ∀ a, B' a → B a) : ∀ (o : O) {v : V} {A : List Addr} {d : D}, isBor o = false → RpO K H B (some v) o A → view o = some d → (∀ a ∈ A, ¬ B' a) → RpS K H B' v d
  | .top, _, _, _, _, _, e, _ => by cases e
  | .pin _, _, _, _, _, _, e, _ => by cases e
  | .al _ _, _, _, _, _, _, e, _ => by cases e
  | .nm b o, _, _, _, _, h, e, hA => by
    cases h with
    | nm h1 h2 => exact RpO.frozen kb o h1 h2 e hA
  | .sh d, _, _, _, _, h, e, _ => by
    cases e
    cases h with
    | sh h1 => exact h1.keep (Keep.here kb)
  | .ow l cs, _, _, _, _, h, e, hA => by
    cases e
    cases h with
    | ow h1 h2 h4 => exact .nd (.inl ⟨hA _ (List.mem_singleton.mpr rfl), _, h1, .inl h2⟩) (h4.keep (Keep.here kb))
  | .dp l os, _, _, _, _, h, e, hA => by
    have e0 : (match viewL os with | some ds => some (D.nd l ds) | none => none) = some _ := e
    cases e1 : viewL os with
    | none => rw [e1] at e0; cases e0
    | some ds =>
      rw [e1] at e0
      cases e0
      cases h with
      | dp h1 h2 hb h4 => exact .nd (.inl ⟨hA _ List.mem_cons_self, _, h1, .inl h2⟩) (RpOs.frozen kb os hb h4 e1 fun a ha => hA a (List.mem_cons_of_mem _ ha))
  | .bor o, _, _, _, hb, _, _, _ => by cases hb
theorem RpOs.frozen (kb : ∀ a, B' a → B a) : ∀ (os : List O) {vs : List V} {A : List Addr} {ds : List D}, os.all (fun o => !isBor o) = true → RpOs K H B (vs.map some) os A → viewL os = some ds → (∀ a ∈ A, ¬ B' a) → RpSs K H B' vs ds
  | [], vs, _, _, _, h, e, _ => by
    cases e
    cases vs with
    | nil => exact .nil
    | cons v vs => cases h
  | o :: os, vs, _, _, hb, h, e, hA => by
    have e0 : (match view o with | some d => (match viewL os with | some ds => some (d :: ds) | none => none) | none => none) = some _ := e
    rw [List.all_cons, Bool.and_eq_true] at hb
    have hb1 : isBor o = false := by
      have := hb.1
      cases e : isBor o with
      | false => rfl
      | true => rw [e] at this; cases this
    cases e1 : view o with
    | none => rw [e1] at e0; cases e0
    | some d =>
      rw [e1] at e0
      cases e2 : viewL os with
      | none => rw [e2] at e0; cases e0
      | some ds =>
        rw [e2] at e0
        cases e0
        cases vs with
        | nil => cases h
        | cons v vs =>
          have h' : RpOs K H B (some v :: vs.map some) (o :: os) _ := h
          cases h' with
          | cons h1 h2 => exact .cons (RpO.frozen kb o hb1 h1 e1 fun a ha => hA a (List.mem_append_left _ ha)) (RpOs.frozen kb os hb.2 h2 e2 fun a ha => hA a (List.mem_append_right _ ha))
end
theorem fz_view : ∀ {o : O} {d : D}, fz o = some d → view o = some d ∧ isBor o = false
  | .top, _, h => by cases h
  | .pin v, _, h => by cases h
  | .al _ _, _, h => by cases h
  | .sh d, _, h => ⟨h, rfl⟩
  | .ow l cs, _, h => ⟨h, rfl⟩
  | .dp l os, _, h => ⟨h, rfl⟩
  | .bor o, _, h => by cases h
  | .nm b o, _, h => ⟨(fz_view (o := o) h).1, rfl⟩
theorem fzL_view : ∀ {os : List O} {ds : List D}, fzL os = some ds → viewL os = some ds ∧ os.all (fun o => !isBor o) = true
  | [], _, h => by cases h; exact ⟨rfl, rfl⟩
  | o :: os, _, h => by
    have e0 : (match fz o with | some d => (match fzL os with | some ds => some (d :: ds) | none => none) | none => none) = some _ := h
    cases e1 : fz o with
    | none => rw [e1] at e0; cases e0
    | some d =>
      rw [e1] at e0
      cases e2 : fzL os with
      | none => rw [e2] at e0; cases e0
      | some ds =>
        rw [e2] at e0
        cases e0
        obtain ⟨h1, h2⟩ := fz_view e1
        obtain ⟨h3, h4⟩ := fzL_view e2
        refine ⟨?_, ?_⟩
        · show (match view o with | some d => (match viewL os with | some ds => some (d :: ds) | none => none) | none => none) = _
          rw [h1, h3]
        · rw [List.all_cons, h2, h4]
          rfl
theorem RpOs.shs : ∀ {os : List O} {vs : List V} {A : List Addr} {ds : List D}, RpOs K H B (vs.map some) os A → shL os = some ds → RpSs K H B vs ds
  | [], vs, _, _, h, e => by
    cases e
    cases vs with
    | nil => exact .nil
    | cons v vs => cases h
  | o :: os, vs, _, _, h, e => by
    cases o with
    | sh d =>
      have e0 : (match shL os with | some ds => some (d :: ds) | none => none) = some _ := e
      cases e2 : shL os with
      | none => rw [e2] at e0; cases e0
      | some ds =>
        rw [e2] at e0
        cases e0
        cases vs with
        | nil => cases h
        | cons v vs =>
          have h' : RpOs K H B (some v :: vs.map some) (.sh d :: os) _ := h
          cases h' with
          | cons h1 h2 =>
            cases h1 with
            | sh h1 => exact .cons h1 (RpOs.shs h2 e2)
    | _ => cases e
/-- a cell with shared children -/
theorem RpO.kids : ∀ (o : O) {v : V} {A : List Addr} {l : Lab} {cs : List D}, RpO K H B (some v) o A → kids o = some (l, cs) → ∃ a vs, v = .ref a ∧ ShAt K H NB l a vs ∧ RpSs K H B vs cs
  | .top, _, _, _, _, _, e => by cases e
  | .pin _, _, _, _, _, _, e => by cases e
  | .al _ _, _, _, _, _, _, e => by cases e
  | .nm b o, _, _, _, _, h, e => by
    cases h with
    | nm h1 h2 => exact RpO.kids o h2 e
  | .sh (.sc s), _, _, _, _, _, e => by cases e
  | .sh (.nd l cs), _, _, _, _, h, e => by
    cases e
    cases h with
    | sh h =>
      cases h with
      | nd h1 h2 =>
        refine ⟨_, _, rfl, ?_, h2⟩
        exact h1.keep keepNB
  | .ow l cs, _, _, _, _, h, e => by
    cases e
    cases h with
    | ow h1 h2 h4 => exact ⟨_, _, rfl, .inl ⟨fun z => z, _, h1, .inl h2⟩, h4⟩
  | .dp l os, _, _, _, _, h, e => by
    have e0 : (match shL os with | some ds => some (l, ds) | none => none) = some _ := e
    cases e1 : shL os with
    | none => rw [e1] at e0; cases e0
    | some ds =>
      rw [e1] at e0
      cases e0
      cases h with
      | dp h1 h2 hb h4 => exact ⟨_, _, rfl, .inl ⟨fun z => z, _, h1, .inl h2⟩, RpOs.shs h4 e1⟩
  | .bor o, _, _, _, _, h, e => by
    cases h with
    | bor h1 => exact RpO.kids o h1 e
end
theorem kids_kl {p : Bool} {o : O} {x : Lab × List D} (h : kids (kl p o) = some x) : kids o = some x := by
  cases p with
  | true => exact h
  | false =>
    cases o with
    | bor o => cases h
    | _ => exact h
section
variable {K : PySem.W.Frag} {S : Addr → Prop} {AA : List Addr} {H : Hp}
/-- the temps are given away -/
theorem RelA.froze {vs : List V} {us : List O} {xs : List (Option V)} {os : List O} {ds : List D} (r : RelA K S AA H (vs.map some ++ xs) (us ++ os)) (hl : vs.length = us.length) (hf : fzL us = some ds) :
    ∃ A, RelA K S A H xs os ∧ RpSs K H (fun a => S a ∨ a ∈ A) vs ds ∧ ∀ a ∈ A, a ∈ AA := by
  obtain ⟨T, A, e, h1, h2, nT, nS⟩ := r.tail (by simpa using hl)
  subst e
  obtain ⟨e1, e2⟩ := fzL_view hf
  refine ⟨A, h2.less fun a h => .inl h, RpOs.frozen (fun a h => ?_) us e2 h1 e1 fun a ha => ?_, fun a ha => List.mem_append_right _ ha⟩
  · exact h.imp_right fun z => List.mem_append_right _ z
  · intro z
    rcases z with z | z
    · exact nS a ha z
    · exact (List.nodup_append.mp r.nd).2.2 a ha a z rfl
/-- a new owned cell -/
theorem RelA.new {xs : List (Option V)} {os : List O} {p : Addr} {h : HO} {l : Lab} {vs : List V} {ds : List D} (r : RelA K S AA H xs os) (hp : H p = none) (hc : cellIs l vs h) (hs : RpSs K H (fun a => S a ∨ a ∈ AA) vs ds) :
    RelA K S (p :: AA) (upd H p h) (some (.ref p) :: xs) (.ow l ds :: os) ∧ Ext AA H (p :: AA) (upd H p h) ∧ Same H (upd H p h) := by
  have sm : Same H (upd H p h) := same_new hp
  have np : ∀ a, (∃ u, H a = some u) → a ≠ p := fun a ⟨u, e⟩ z => by rw [z, hp] at e; cases e
  have k : Keep H (upd H p h) (fun a => S a ∨ a ∈ AA) (fun a => S a ∨ a ∈ p :: AA) := Keep.same sm fun a u nb e z => by
    rcases z with z | z
    · exact nb (.inl z)
    · rcases List.mem_cons.mp z with z | z
      · exact np a ⟨u, e⟩ z
      · exact nb (.inr z)
  have nA : p ∉ AA := fun z => np p (RpOs.tracked os r.rp p z) rfl
  refine ⟨⟨?_, List.nodup_cons.mpr ⟨nA, r.nd⟩, fun a ha z => ?_, fun a ha => ?_⟩, Ext.same sm fun a ha => ?_, sm⟩
  · exact RpOs.cons (A := [p]) (.ow upd_same hc (hs.keep k)) (r.rp.pure k sm os)
  · rcases List.mem_cons.mp ha with e | ha
    · exact np a (r.st a z) e
    · exact r.ns a ha z
  · obtain ⟨u, e⟩ := r.st a ha
    exact ⟨u, sm a u e⟩
  · rcases List.mem_cons.mp ha with e | ha
    · rw [e]; exact .inl hp
    · exact .inr ha
where
  same_new {H : Hp} {p : Addr} {h : HO} (hp : H p = none) : Same H (upd H p h) := fun b o e => by
    rw [upd_ne (ne_of_none e hp)]
    exact e
theorem same_new {H : Hp} {p : Addr} {h : HO} (hp : H p = none) : Same H (upd H p h) := fun b o e => by
  rw [upd_ne (ne_of_none e hp)]
  exact e
/-- a new shared cell (a tuple) -/
theorem RelA.newS {xs : List (Option V)} {os : List O} {p : Addr} {h : HO} {l : Lab} {vs : List V} {ds : List D} (r : RelA K S AA H xs os) (hp : H p = none) (hc : cellIs l vs h) (hs : RpSs K H (fun a => S a ∨ a ∈ AA) vs ds) :
    RelA K S AA (upd H p h) (some (.ref p) :: xs) (.sh (.nd l ds) :: os) ∧ Ext AA H AA (upd H p h) ∧ Same H (upd H p h) := by
  have sm : Same H (upd H p h) := same_new hp
  have np : ∀ a, (∃ u, H a = some u) → a ≠ p := fun a ⟨u, e⟩ z => by rw [z, hp] at e; cases e
  have k : Keep H (upd H p h) (fun a => S a ∨ a ∈ AA) (fun a => S a ∨ a ∈ AA) := Keep.same sm fun a u nb _ => nb
  have nB : ¬ (S p ∨ p ∈ AA) := fun z => by
    rcases z with z | z
    · exact np p (r.st p z) rfl
    · exact np p (RpOs.tracked os r.rp p z) rfl
  refine ⟨⟨?_, r.nd, r.ns, fun a ha => ?_⟩, Ext.same sm fun a ha => .inr ha, sm⟩
  · exact RpOs.cons (A := []) (.sh (.nd (.inl ⟨nB, h, upd_same, .inl hc⟩) (hs.keep k))) (r.rp.pure k sm os)
  · obtain ⟨u, e⟩ := r.st a ha
    exact ⟨u, sm a u e⟩
/-- a new cell over owned children -/
theorem RelA.newD {vs : List V} {us : List O} {xs : List (Option V)} {os : List O} {p : Addr} {h : HO} {l : Lab} (r : RelA K S AA H (vs.map some ++ xs) (us ++ os)) (hl : vs.length = us.length) (hb : us.all (fun o => !isBor o) = true) (hp : H p = none) (hc : cellIs l vs h) :
    RelA K S (p :: AA) (upd H p h) (some (.ref p) :: xs) (.dp l us :: os) ∧ Ext AA H (p :: AA) (upd H p h) ∧ Same H (upd H p h) := by
  have sm : Same H (upd H p h) := same_new hp
  have np : ∀ a, (∃ u, H a = some u) → a ≠ p := fun a ⟨u, e⟩ z => by rw [z, hp] at e; cases e
  have k : Keep H (upd H p h) (fun a => S a ∨ a ∈ AA) (fun a => S a ∨ a ∈ p :: AA) := Keep.same sm fun a u nb e z => by
    rcases z with z | z
    · exact nb (.inl z)
    · rcases List.mem_cons.mp z with z | z
      · exact np a ⟨u, e⟩ z
      · exact nb (.inr z)
  have nA : p ∉ AA := fun z => np p (RpOs.tracked _ r.rp p z) rfl
  obtain ⟨T, A, e, h1, h2⟩ := (r.rp.pure k sm _).split (by simpa using hl)
  refine ⟨⟨?_, List.nodup_cons.mpr ⟨nA, r.nd⟩, fun a ha z => ?_, fun a ha => ?_⟩, Ext.same sm fun a ha => ?_, sm⟩
  · rw [show p :: AA = (p :: T) ++ A by rw [e]; rfl] at h1 h2 ⊢
    exact RpOs.cons (.dp upd_same hc hb h1) h2
  · rcases List.mem_cons.mp ha with e | ha
    · exact np a (r.st a z) e
    · exact r.ns a ha z
  · obtain ⟨u, e⟩ := r.st a ha
    exact ⟨u, sm a u e⟩
  · rcases List.mem_cons.mp ha with e | ha
    · rw [e]; exact .inl hp
    · exact .inr ha
/-- fewer owned addresses -/
theorem RpSs.sub {vs : List V} {ds : List D} {A A' : List Addr} (h : RpSs K H (fun a => S a ∨ a ∈ A) vs ds) (hs : ∀ a ∈ A', a ∈ A) : RpSs K H (fun a => S a ∨ a ∈ A') vs ds :=
  h.keep (Keep.here fun a z => z.imp_right (hs a))
theorem RelA.kidsAt {xs : List (Option V)} {os : List O} {i : Nat} {v : V} {o : O} {l : Lab} {cs : List D} (r : RelA K S AA H xs os) (hx : xs[i]? = some (some v)) (ho : os[i]? = some o) (hk : kids o = some (l, cs)) :
    ∃ a vs, v = .ref a ∧ ShAt K H NB l a vs ∧ RpSs K H (fun a => S a ∨ a ∈ AA) vs cs := by
  obtain ⟨x, A, h1, h2⟩ := r.get ho
  rw [hx] at h1
  cases h1
  exact RpO.kids o h2 hk
theorem RelA.readAt {xs : List (Option V)} {os : List O} {i : Nat} {v : V} {o : O} {d : D} (r : RelA K S AA H xs os) (hx : xs[i]? = some (some v)) (ho : os[i]? = some o) (hk : view o = some d) : RpS K H NB v d := by
  obtain ⟨x, A, h1, h2⟩ := r.get ho
  rw [hx] at h1
  cases h1
  exact RpO.read o h2 hk
end

/-! ### operations on values -/
abbrev GN := List O → (O → Prop) → Prop
/-- the reading rd of values is served by g: nothing that stood changes -/
def Srv (K : PySem.W.Frag) (rd : List V → Hp → L2.VK → Prop) (g : GN) : Prop := ∀ (S : Addr → Prop) (AA : List Addr) (H : Hp) (vs : List V) (os : List O) (xs : List (Option V)) (us : List O) (k : O → Prop) (Q : L2.VK),
  RelA K S AA H (vs.map some ++ xs) (os ++ us) → vs.length = os.length → (∀ v H' o AA', k o → RelA K S AA' H' (some v :: xs) (o :: us) → Ext AA H AA' H' → Same H H' → Q v H') → g os k → rd vs H Q
def r2 (rd : R2) : List V → Hp → L2.VK → Prop := fun vs H Q => match vs with
  | [x, y] => rd x y H Q
  | _ => False
def r1 (rd : V → Hp → L2.VK → Prop) : List V → Hp → L2.VK → Prop := fun vs H Q => match vs with
  | [x] => rd x H Q
  | _ => False
/-- scalars out -/
abbrev G2 := D → D → (Sc → Prop) → Prop
abbrev G1 := D → (Sc → Prop) → Prop
def gS2 (g : G2) : GN := fun os k => match os with
  | [a, b] => vw a fun d => vw b fun e => g d e fun s => k (.sh (.sc s))
  | _ => False
def gS1 (g : G1) : GN := fun os k => match os with
  | [a] => vw a fun d => g d fun s => k (.sh (.sc s))
  | _ => False
theorem len1 {vs : List V} {a : O} (h : vs.length = [a].length) : ∃ x, vs = [x] := by
  rcases vs with _ | ⟨x, _ | ⟨y, vs⟩⟩
  · cases h
  · exact ⟨x, rfl⟩
  · cases h
theorem len2 {vs : List V} {a b : O} (h : vs.length = [a, b].length) : ∃ x y, vs = [x, y] := by
  rcases vs with _ | ⟨x, _ | ⟨y, _ | ⟨z, vs⟩⟩⟩
  · cases h
  · cases h
  · exact ⟨x, y, rfl⟩
  · cases h
theorem len3 {vs : List V} {a b c : O} (h : vs.length = [a, b, c].length) : ∃ x y z, vs = [x, y, z] := by
  rcases vs with _ | ⟨x, _ | ⟨y, _ | ⟨z, _ | ⟨w, vs⟩⟩⟩⟩
  · cases h
  · cases h
  · cases h
  · exact ⟨x, y, z, rfl⟩
  · cases h
section
variable {K : PySem.W.Frag}
theorem Srv.s2 {rd : R2} {g : G2} (hs : ∀ (H : Hp) (x y : V) (d e : D) (k : Sc → Prop) (Q : L2.VK), RpS K H NB x d → RpS K H NB y e → (∀ s, k s → Q s.v H) → g d e k → rd x y H Q) : Srv K (r2 rd) (gS2 g) := by
  intro S AA H vs os xs us k Q r hl hQ h
  obtain ⟨a, b, rfl⟩ : ∃ a b, os = [a, b] := by
    rcases os with _ | ⟨a, _ | ⟨b, _ | ⟨c, os⟩⟩⟩
    · exact (show False from h).elim
    · exact (show False from h).elim
    · exact ⟨a, b, rfl⟩
    · exact (show False from h).elim
  obtain ⟨x, y, rfl⟩ := len2 hl
  obtain ⟨d, e1, h⟩ := vw_of (show vw a _ from h)
  obtain ⟨e, e2, h⟩ := vw_of h
  refine hs H x y d e _ Q (r.readAt (i := 0) rfl rfl e1) (r.readAt (i := 1) rfl rfl e2) (fun s hk => ?_) h
  obtain ⟨A4, r4, s4⟩ := RelA.dropN (ts := [some x, some y]) (us := [a, b]) (xs := xs) (os := us) r rfl
  exact hQ s.v H _ A4 hk (r4.sc s) (Ext.refl.sub s4) (Same.refl H)
theorem Srv.s1 {rd : V → Hp → L2.VK → Prop} {g : G1} (hs : ∀ (H : Hp) (x : V) (d : D) (k : Sc → Prop) (Q : L2.VK), RpS K H NB x d → (∀ s, k s → Q s.v H) → g d k → rd x H Q) : Srv K (r1 rd) (gS1 g) := by
  intro S AA H vs os xs us k Q r hl hQ h
  obtain ⟨a, rfl⟩ : ∃ a, os = [a] := by
    rcases os with _ | ⟨a, _ | ⟨c, os⟩⟩
    · exact (show False from h).elim
    · exact ⟨a, rfl⟩
    · exact (show False from h).elim
  obtain ⟨x, rfl⟩ := len1 hl
  obtain ⟨d, e1, h⟩ := vw_of (show vw a _ from h)
  refine hs H x d _ Q (r.readAt (i := 0) rfl rfl e1) (fun s hk => ?_) h
  obtain ⟨A4, r4, s4⟩ := RelA.dropN (ts := [some x]) (us := [a]) (xs := xs) (os := us) r rfl
  exact hQ s.v H _ A4 hk (r4.sc s) (Ext.refl.sub s4) (Same.refl H)
end
def vBin (pb : Bool) (g : GN) (ra rb : VE) : VE := fun ρ φ ε => ra ρ (fun oa ρ1 => rb ρ1 (fun ob ρ2 => g [kl pb oa, ob] fun o => φ o ρ2) ε) ε
def vUn (g : GN) (ra : VE) : VE := fun ρ φ ε => ra ρ (fun oa ρ1 => g [oa] fun o => φ o ρ1) ε
def vArg (g : GN) (ra : VA) : VE := fun ρ φ ε => ra ρ (fun os ρ1 => g os fun o => φ o ρ1) ε
def vNil : VA := fun ρ φ _ => φ [] ρ
def vCons (pr : Bool) (ra : VE) (rr : VA) : VA := fun ρ φ ε => ra ρ (fun oa ρ1 => rr ρ1 (fun os ρ2 => φ (kl pr oa :: os) ρ2) ε) ε
theorem and2 {a b : Bool} (h : (a && b) = true) : a = true ∧ b = true := Bool.and_eq_true_iff.mp h
section
variable {K : PySem.W.Frag} {W : WX} {pa pb : Bool} {ta tb : TE} {ra rb : VE}
theorem snd_bin {rd : R2} {g : GN} (hs : Srv K (r2 rd) g) (ha : SndE K W pa ta ra) (hb : SndE K W pb tb rb) : SndE K W (pa && pb) (tOp rd ta tb) (vBin pb g ra rb) := by
  intro S AA H σ ρ φ ε Q r l hQ h
  refine ha S AA H σ ρ _ ε _ r l (fun v1 H1 o1 ρ1 A1 h1 r1 x1 p1 => ?_) h
  obtain ⟨T, A, eT, r1', J⟩ := RelA.under (ts := [some v1]) (us := [o1]) (xs := σ) (os := ρ1) r1 rfl pb
  subst eT
  refine hb _ A H1 σ ρ1 _ ε _ r1' (l.step x1).under (fun v2 H2 o2 ρ2 A2 h2 r2 x2 p2 => ?_) h1
  obtain ⟨r3, x3⟩ := J A2 H2 (some v2 :: σ) (o2 :: ρ2) x2 r2 fun e => (p2 e).2
  refine hs S _ H2 [v1, v2] [kl pb o1, o2] σ ρ2 _ Q r3 rfl (fun v H' o A' hk r4 x4 s4 => ?_) h2
  refine hQ v H' o ρ2 A' hk r4 ((x1.trans x3).trans x4) fun e => ?_
  obtain ⟨ea, eb⟩ := and2 e
  exact ⟨(p2 eb).1.trans (p1 ea).1, Same.trans (Same.trans (p1 ea).2 (p2 eb).2) s4⟩
theorem snd_un {rd : V → Hp → L2.VK → Prop} {g : GN} (hs : Srv K (r1 rd) g) (ha : SndE K W pa ta ra) : SndE K W pa (tUn rd ta) (vUn g ra) := by
  intro S AA H σ ρ φ ε Q r l hQ h
  refine ha S AA H σ ρ _ ε _ r l (fun v1 H1 o1 ρ1 A1 h1 r1 x1 p1 => ?_) h
  refine hs S _ H1 [v1] [o1] σ ρ1 _ Q r1 rfl (fun v H' o A' hk r4 x4 s4 => ?_) h1
  exact hQ v H' o ρ1 A' hk r4 (x1.trans x4) fun e => ⟨(p1 e).1, Same.trans (p1 e).2 s4⟩
theorem snd_nil : SndA K W true tNil vNil := by
  intro S AA H σ ρ φ ε Q r l hQ h
  exact hQ [] H [] ρ AA h rfl r Ext.refl fun _ => ⟨rfl, Same.refl H⟩
theorem snd_cons {tr : TA} {rr : VA} (ha : SndE K W pa ta ra) (hb : SndA K W pb tr rr) : SndA K W (pa && pb) (tCons ta tr) (vCons pb ra rr) := by
  intro S AA H σ ρ φ ε Q r l hQ h
  refine ha S AA H σ ρ _ ε _ r l (fun v1 H1 o1 ρ1 A1 h1 r1 x1 p1 => ?_) h
  obtain ⟨T, A, eT, r1', J⟩ := RelA.under (ts := [some v1]) (us := [o1]) (xs := σ) (os := ρ1) r1 rfl pb
  subst eT
  refine hb _ A H1 σ ρ1 _ ε _ r1' (l.step x1).under (fun vs H2 os ρ2 A2 h2 hl r2 x2 p2 => ?_) h1
  obtain ⟨r3, x3⟩ := J A2 H2 (vs.map some ++ σ) (os ++ ρ2) x2 r2 fun e => (p2 e).2
  refine hQ (v1 :: vs) H2 (kl pb o1 :: os) ρ2 _ h2 (by rw [List.length_cons, List.length_cons, hl]) r3 (x1.trans x3) fun e => ?_
  obtain ⟨ea, eb⟩ := and2 e
  exact ⟨(p2 eb).1.trans (p1 ea).1, Same.trans (p1 ea).2 (p2 eb).2⟩
theorem snd_arg {tr : TA} {rr : VA} {rd : List V → Hp → L2.VK → Prop} {g : GN} (hs : Srv K rd g) (ha : SndA K W pa tr rr) : SndE K W pa (tCB rd tr) (vArg g rr) := by
  intro S AA H σ ρ φ ε Q r l hQ h
  refine ha S AA H σ ρ _ ε _ r l (fun vs H1 os ρ1 A1 h1 hl r1 x1 p1 => ?_) h
  refine hs S _ H1 vs os σ ρ1 _ Q r1 hl (fun v H' o A' hk r4 x4 s4 => ?_) h1
  exact hQ v H' o ρ1 A' hk r4 (x1.trans x4) fun e => ⟨(p1 e).1, Same.trans (p1 e).2 s4⟩
end
section
variable {X : Cx} {W : WX} {pa pb : Bool} {a b e : Expr} {es : List Expr} {ra rb : VE} {rr : VA} {pos : Pos}
theorem ev_bop {q_ : Bool} {op : Operator} {rd : R2} {g : GN} (ho : OpR X (binaryOp op) rd) (hs : Srv X.K (r2 rd) g) (ha : Ev X W pa a ra) (hb : Ev X W pb b rb) (hq_ : (pa && pb) = q_ := by rfl) : Ev X W q_ (.BinOp a op b pos) (vBin pb g ra rb) := by
  subst hq_
  obtain ⟨ta, ea, sa⟩ := ha.ex
  obtain ⟨tb, eb, sb⟩ := hb.ex
  exact ⟨_, pe_op ho ea eb, snd_bin hs sa sb⟩
theorem ev_cmp {q_ : Bool} {op : CmpOp} {rd : R2} {g : GN} (ho : OpR X (compareOp op) rd) (hs : Srv X.K (r2 rd) g) (ha : Ev X W pa a ra) (hb : Ev X W pb b rb) (hm : behindInMarks op b = false) (hq_ : (pa && pb) = q_ := by rfl) : Ev X W q_ (.Compare a [op] [b] pos) (vBin pb g ra rb) := by
  subst hq_
  obtain ⟨ta, ea, sa⟩ := ha.ex
  obtain ⟨tb, eb, sb⟩ := hb.ex
  exact ⟨_, pe_cmpR ho ea eb hm, snd_bin hs sa sb⟩
theorem ev_un {op : UnaryOp} {rd : V → Hp → L2.VK → Prop} {g : GN} (ho : UnR X (unaryOp op) rd) (hs : Srv X.K (r1 rd) g) (ha : Ev X W pa a ra) : Ev X W pa (.UnaryOp op a pos) (vUn g ra) := by
  obtain ⟨ta, ea, sa⟩ := ha.ex
  exact ⟨_, pe_un ho ea, snd_un hs sa⟩
theorem av_nil : Av X W true [] vNil := ⟨_, pa_nil, snd_nil⟩
theorem av_cons {q_ : Bool} (ha : Ev X W pa e ra) (hr : Av X W pb es rr) (hs : starEach (e :: es) X.env = (false, eval e X.env) :: starEach es X.env := by rfl) (hq_ : (pa && pb) = q_ := by rfl) : Av X W q_ (e :: es) (vCons pb ra rr) := by
  subst hq_
  obtain ⟨ta, ea, sa⟩ := ha.ex
  obtain ⟨tr, er, sr⟩ := hr.ex
  exact ⟨_, pa_cons ea er hs, snd_cons sa sr⟩
end
end VL

/-! a def's promise where no repr runs around (guards), exceptions wished for at the caller's slots -/
namespace VL
open PySem PySem.Spec L2
open PyProof.Rows (envOfC)

structure FnG (P : Program) (w : World) (K : PySem.W.Frag) (mg : Str → Option Value) (base : Heap) (k : Nat) (f : Addr) (fd : FuncData) (ps : List Str) (sp : Sp) : Prop where
  len : ∀ vs H Q E, sp vs H Q E → vs.length = ps.length
  run : ∀ (A : Around) (outer : List PySem.Env) (s : Shared) (H : Hp) (args : Args) (us : List Value) (vs : List V) (Q : L2.VK) (E : XK),
    Room k A → A.guards = some [] → Env0 P w K mg base A outer s H → BindsTo s fd args (ps.zip us) → Vals vs us → sp vs H Q E →
    codeAny (model P w) A (.call (.ref f) args) (CR (L2.CX P w) outer P w H s Q E) s
section
variable {P : Program} {w : World} {K : PySem.W.Frag} {mg : Str → Option Value} {base : Heap} {f : Addr} {fd : FuncData} {ps : List Str} {sp sp' : Sp}
theorem FnG.mono {j k : Nat} (F : FnG P w K mg base j f fd ps sp) (h : j ≤ k) : FnG P w K mg base k f fd ps sp :=
  ⟨F.len, fun A outer s H args us vs Q E room g => F.run A outer s H args us vs Q E (room.mono h) g⟩
theorem FnG.imp {k : Nat} (F : FnG P w K mg base k f fd ps sp) (h : ∀ vs H Q E, sp' vs H Q E → sp vs H Q E) : FnG P w K mg base k f fd ps sp' :=
  ⟨fun vs H Q E q => F.len vs H Q E (h vs H Q E q), fun A outer s H args us vs Q E room g e0 hb hv q => F.run A outer s H args us vs Q E room g e0 hb hv (h vs H Q E q)⟩
end
/-- the def by its body -/
theorem fng_of {P : Program} {w : World} {K : PySem.W.Frag} {mg : Str → Option Value} {base : Heap} {k : Nat} {f : Addr} {name qual : Str} {params : Arguments} {body : List Stmt} {scope : Scope} {dV kV doc pm cdv ct oc : Value} {an od : Option Addr}
    {osl : Array (Option Value)} {N ps : List Str} {sp : Sp} (found : K.lookup f = some ⟨oc, od, .func (PySem.W.fnOf name qual params body scope dV kV doc pm an cdv ct), osl⟩) (hcode : PySem.W.codeIn K cdv qual = true) (Sc : FnScope N ps scope)
    (len : ∀ vs H Q E, sp vs H Q E → vs.length = ps.length)
    (hbody : ∀ (A : Around) (outer : List PySem.Env) (s : Shared) (H : Hp) (vs : List V) (Q : L2.VK) (E : XK), Room k (A.deeper (envOfC qual scope s.heap.objs.size f cdv)) → A.guards = some [] → sp vs H Q E →
      ∃ t, PSs (cxOf (L2.CX P w) P w K mg base N qual scope f cdv A outer s H E) body t ∧ t { nx := fun _ H' => Q .non H', rt := Q } (start N vs) H) :
    FnG P w K mg base (k + 1) f (PySem.W.fnOf name qual params body scope dV kV doc pm an cdv ct) ps sp := by
  refine ⟨len, fun A outer s H args us vs Q E room g e0 hbind rel hsp => ?_⟩
  have lenv := len _ _ _ _ hsp
  have kin : K.In s.heap := e0.mod.kin.keeps fun b o e => (e0.bs b o e).1
  have lim : s.heap.NoLimit := e0.mod.nolimit.keeps fun b o e => (e0.bs b o e).1
  have hkind : ∀ y ∈ ps.zip us, scope.names.lookup y.1 = some .local ∨ (scope.names.lookup y.1 = some .cell ∧ ((cellsFrom (s.heap.objs.size + 1) scope.names []).lookup y.1).isSome = true) := by
    rintro ⟨n, v⟩ hy
    rcases Sc.par n (List.of_mem_zip hy).1 with q | q
    · exact .inl q
    · exact .inr ⟨q, PySem.W.cellsFrom_some _ _ _ (.inl q)⟩
  refine codeAny_call_function room.depth (kin _ _ found) rfl Sc.co Sc.gen rfl (PySem.W.codeRec_of kin hcode) (hbind _ _ _ _ ?_)
  refine wpAny_newFunctionEnv_cells Sc.kind hkind fun env he s1 x => ?_
  subst he
  refine ⟨lim.keeps x.toInCall.keep, codeAny_func ?_⟩
  obtain ⟨t, ht, hq⟩ := hbody A outer s H vs Q E (room.deeper _) g hsp
  have inv := inv_start (CX := L2.CX P w) (E := E) Sc room.hd e0 lenv rel x
  refine wpAny_mono (ht.run [] s1 (start N vs) H _ inv hq) (fun fl s' hs => ?_) fun e s' hs => hs
  have fin : ∀ {σ' : L2.St} {H' : Hp} {v : V} {u : Value}, Inv (cxOf (L2.CX P w) P w K mg base N qual scope f cdv A outer s H E) [] σ' H' s' → RelV v u → Q v H' → CE outer P w H s Q u s' := by
    intro σ' H' v u J rv q
    exact ⟨v, H', J.os, J.bare, J.base, J.hok, rv, q⟩
  cases fl with
  | ret u =>
    obtain ⟨v, _, _, J, rv, q⟩ := hs
    exact fin J rv q
  | next =>
    obtain ⟨_, _, J, q⟩ := hs
    exact fin (v := V.non) (u := Value.none) J rfl q
  | brk => obtain ⟨_, _, _, q⟩ := hs; exact q.elim
  | cont => obtain ⟨_, _, _, q⟩ := hs; exact q.elim

section
variable {X : Cx} {k : Nat} {f C : Addr} {fd : FuncData} {ps : List Str} {sp : Sp} {dvs : List V} {ds : List Value} {W : WX} {x m : Str} {p pos apos : Pos} {e o : Expr} {es : List Expr} {ta : TE} {t : TA}
/-- the callee runs, from the slots σ -/
theorem run_fnG {pins : List (Addr × Obj)} {σ : L2.St} {H : Hp} {s : Shared} {Q : L2.VK} {us : List Value} {vs : List V} (F : FnG X.prog X.w X.K X.mg X.base k f fd ps sp) (room : Room k X.A) (g : X.A.guards = some []) (hb : Binds X.K fd ps ds) (hd : Vals dvs ds) (tk : Takes X W)
    (I : Inv X pins σ H s) (r : Vals vs us) (h : sp (vs ++ dvs) H Q (WE W σ)) : wpAny (model X.prog X.w) X.A (call (.ref f) us) (EP X pins σ Q) X.xe s := by
  have r2 : Vals (vs ++ dvs) (us ++ ds) := Vals.append r hd
  have hl : (us ++ ds).length = ps.length := r2.length.symm.trans (F.len _ _ _ _ h)
  refine wpAny_call (codeAny_mono (F.run X.A X.stack s H ⟨us, []⟩ (us ++ ds) (vs ++ dvs) Q (WE W σ) room g I.env0 (hb s us I.kIn hl) r2 h) fun res s' hq => ?_)
  match res, hq with
  | .error e, hq => exact passAt tk σ pins H s e s' I hq
  | .ok (.ret u), hq => exact I.after hq
  | .ok .next, hq => exact False.elim hq
  | .ok .brk, hq => exact False.elim hq
  | .ok .cont, hq => exact False.elim hq
/-- f(e, ..) -/
theorem pe_callG (F : FnG X.prog X.w X.K X.mg X.base k f fd ps sp) (room : Room k X.A) (g : X.A.guards = some []) (hg : Gl X x) (hm : X.mg x = some (.ref f)) (hk : PySem.W.keepIn X.K (.ref f) = true) (hb : Binds X.K fd ps ds) (hd : Vals dvs ds) (tk : Takes X W)
    (ha : PA X (e :: es) t) (hdb : (x == ("__debug__" : Str)) = false := by decide) (he : starEach (e :: es) X.env = (false, eval e X.env) :: starEach es X.env := by rfl) (hpl : (PySem.backTo pos (starEach es X.env)).any (·.1) = false := by rfl) :
    PE X (.Call (.Name x p) (e :: es) [] pos) (tCallSD sp dvs (WE W) t) := by
  constructor
  intro pins s σ H Q I h
  refine wpAny_Call_Name_kw (ld_glob I hg hm ?_ hdb)
  exact PySem.W.callWith_K (h₀ := X.base) I.ok.mod.kin hk (thn (ha.run pos pins s σ H _ I h) fun us s1 ⟨vs, H1, I1, r, q⟩ => ⟨I1.kIn, run_fnG F room g hb hd tk I1 r q⟩) he hpl
/-- f() -/
theorem pe_callG0 (F : FnG X.prog X.w X.K X.mg X.base k f fd ps sp) (room : Room k X.A) (g : X.A.guards = some []) (hg : Gl X x) (hm : X.mg x = some (.ref f)) (hk : PySem.W.keepIn X.K (.ref f) = true) (hb : Binds X.K fd ps ds) (hd : Vals dvs ds) (tk : Takes X W)
    (hdb : (x == ("__debug__" : Str)) = false := by decide) : PE X (.Call (.Name x p) [] [] pos) (tCallSD sp dvs (WE W) tNil) := by
  constructor
  intro pins s σ H Q I h
  refine wpAny_Call_Name_kw (ld_glob I hg hm ?_ hdb)
  exact PySem.W.callWith_K0 I.kIn hk (run_fnG (us := []) (vs := []) F room g hb hd tk I .nil h)
/-- o.m(e, ..): the receiver, its arguments -/
def tMethG (C : Addr) (m : Str) (sp : Sp) (dvs : List V) (W : WX) (ta : TE) (t : TA) : TE := fun σ H Q => ta σ H fun x H1 => ∃ a dx fs, x = .ref a ∧ H1 a = some (.ins C dx fs) ∧ fs.lookup m = none ∧ t σ H1 fun vs H2 => sp (x :: (vs ++ dvs)) H2 Q (WE W σ)
theorem pe_methG {pl : Sem Bool} (he : PE X o ta) (c : Cls X.K C) (hm : Meth X.K C m f) (F : FnG X.prog X.w X.K X.mg X.base k f fd ps sp) (room : Room k X.A) (g : X.A.guards = some []) (hb : Binds X.K fd ps ds) (hd : Vals dvs ds) (tk : Takes X W) (ha : PA X (e :: es) t)
    (hst : starEach (e :: es) X.env = (false, eval e X.env) :: starEach es X.env := by rfl) (hpl : (PySem.backTo pos (starEach es X.env)).any (·.1) = false := by rfl)
    (ht : eval (.Call (.Attribute o m apos) (e :: es) [] pos) X.env = (do
        let ov ← eval o X.env
        standAt apos.atName
        let (fn, first) ← holding [ov] (getMethod ov m pl)
        callWith pos fn first (PySem.backTo pos (starEach (e :: es) X.env)) (backToKw pos (keywordEach [] X.env))) := by rfl) :
    PE X (.Call (.Attribute o m apos) (e :: es) [] pos) (tMethG C m sp dvs W ta t) := by
  constructor
  intro pins s σ H Q I h
  refine PySem.W.methodCall_KW (pl := pl) (thn (he.run pins s σ H _ I h) ?_) ht
  rintro u s1 ⟨x, H1, I1, rx, a, dx, fs, rfl, ea, l, q⟩
  have eu : u = Value.ref a := rx
  subst eu
  refine getmeth_ok I1 ea c hm l ?_
  exact PySem.W.callWith_K (first := [.ref a]) (h₀ := X.base) I.ok.mod.kin hm.kp (thn (ha.run pos pins s1 σ H1 _ I1 q) fun us s2 ⟨vs, H2, I2, r, q2⟩ => ⟨I2.kIn, run_fnG (us := .ref a :: us) (vs := .ref a :: vs) F room g hb hd tk I2 (.cons rfl r) q2⟩) hst hpl
theorem pe_methG0 {pl : Sem Bool} (he : PE X o ta) (c : Cls X.K C) (hm : Meth X.K C m f) (F : FnG X.prog X.w X.K X.mg X.base k f fd ps sp) (room : Room k X.A) (g : X.A.guards = some []) (hb : Binds X.K fd ps ds) (hd : Vals dvs ds) (tk : Takes X W)
    (ht : eval (.Call (.Attribute o m apos) [] [] pos) X.env = (do
        let ov ← eval o X.env
        standAt apos.atName
        let (fn, first) ← holding [ov] (getMethod ov m pl)
        callWith pos fn first (PySem.backTo pos (starEach [] X.env)) (backToKw pos (keywordEach [] X.env))) := by rfl) :
    PE X (.Call (.Attribute o m apos) [] [] pos) (tMethG C m sp dvs W ta tNil) := by
  constructor
  intro pins s σ H Q I h
  refine PySem.W.methodCall_KW (pl := pl) (thn (he.run pins s σ H _ I h) ?_) ht
  rintro u s1 ⟨x, H1, I1, rx, a, dx, fs, rfl, ea, l, q⟩
  have eu : u = Value.ref a := rx
  subst eu
  refine getmeth_ok I1 ea c hm l ?_
  exact PySem.W.callWith_K0 (first := [.ref a]) I1.kIn hm.kp (run_fnG (us := [.ref a]) (vs := [.ref a]) F room g hb hd tk I1 (.cons rfl .nil) q)
/-- C(..): a new instance, then __init__ -/
def tMakeG (C : Addr) (sp : Sp) (dvs : List V) (W : WX) (t : TA) : TE := fun σ H Q => t σ H fun vs H1 => ∀ x dx, H1 x = none → H1 dx = none → dx ≠ x →
  sp (.ref x :: (vs ++ dvs)) (upd (upd H1 dx (.own x)) x (.ins C dx [])) (fun v H2 => v = .non ∧ Q (.ref x) H2) (WE W σ)
theorem guards_make (A : Around) (C : Addr) (us : List Value) (kw : List (Str × Value)) (g : A.guards = some []) : (A.under (.builtin "type.__call__" ⟨.ref C :: us, kw⟩)).guards = some [] := by
  show pushGuards (Code.builtin "type.__call__" ⟨.ref C :: us, kw⟩).guards A.guards = some []
  rw [g]
  first
    | rfl
    | (simp [pushGuards, Code.guards, Code.isGuard]; done)
theorem run_makeG {pins : List (Addr × Obj)} {σ : L2.St} {H : Hp} {s : Shared} {Q : L2.VK} {us : List Value} {vs : List V} (M : Mk X.K C f) (F : FnG X.prog X.w X.K X.mg X.base k f fd ps sp) (room : Room (k + 1) X.A) (g : X.A.guards = some []) (hb : Binds X.K fd ps ds) (hd : Vals dvs ds)
    (tk : Takes X W) (I : Inv X pins σ H s) (r : Vals vs us)
    (h : ∀ x dx, H x = none → H dx = none → dx ≠ x → sp (.ref x :: (vs ++ dvs)) (upd (upd H dx (.own x)) x (.ins C dx [])) (fun v H2 => v = .non ∧ Q (.ref x) H2) (WE W σ)) :
    wpAny (model X.prog X.w) X.A (call (.ref C) us) (EP X pins σ Q) X.xe s := by
  have q0 := h (s.heap.objs.size + 1) s.heap.objs.size (I.hok.fresh (Nat.le_succ _)) (I.hok.fresh (Nat.le_refl _)) (Nat.ne_of_lt (Nat.lt_succ_self _))
  have J := Inv.made (C := C) I
  have rel : Vals (V.ref (s.heap.objs.size + 1) :: (vs ++ dvs)) (Value.ref (s.heap.objs.size + 1) :: (us ++ ds)) := .cons rfl (Vals.append r hd)
  have hl : (Value.ref (s.heap.objs.size + 1) :: us ++ ds).length = ps.length := by
    have e := rel.length
    rw [F.len _ _ _ _ q0] at e
    exact e.symm
  refine wpAny_call (make_map (f := f) I.kIn M.makes M.init (beq_iff_eq.mp M.fn) (codeAny_mono (F.run _ X.stack _ _ ⟨Value.ref (s.heap.objs.size + 1) :: us, []⟩ (Value.ref (s.heap.objs.size + 1) :: (us ++ ds)) _ _ (WE W σ) (room.make C us [])
    (guards_make X.A C us [] g) (J.env0.make C us []) (hb _ (Value.ref (s.heap.objs.size + 1) :: us) J.kIn hl) rel q0) fun res s' hq => ?_))
  match res, hq with
  | .error e, hq => exact passAt tk σ pins _ _ e s' J hq
  | .ok (.ret u), hq =>
    obtain ⟨v, H', I3, rv, ev, q3⟩ := J.after hq
    subst ev
    exact ⟨rv, ⟨V.ref (s.heap.objs.size + 1), H', I3, rfl, q3⟩⟩
  | .ok .next, hq => exact False.elim hq
  | .ok .brk, hq => exact False.elim hq
  | .ok .cont, hq => exact False.elim hq
theorem pe_makeG (M : Mk X.K C f) (F : FnG X.prog X.w X.K X.mg X.base k f fd ps sp) (room : Room (k + 1) X.A) (g : X.A.guards = some []) (hg : Gl X x) (hm : X.mg x = some (.ref C)) (hb : Binds X.K fd ps ds) (hd : Vals dvs ds) (tk : Takes X W)
    (ha : PA X (e :: es) t) (hdb : (x == ("__debug__" : Str)) = false := by decide) (he : starEach (e :: es) X.env = (false, eval e X.env) :: starEach es X.env := by rfl) (hpl : (PySem.backTo pos (starEach es X.env)).any (·.1) = false := by rfl) :
    PE X (.Call (.Name x p) (e :: es) [] pos) (tMakeG C sp dvs W t) := by
  constructor
  intro pins s σ H Q I h
  refine wpAny_Call_Name_kw (ld_glob I hg hm ?_ hdb)
  exact PySem.W.callWith_K (h₀ := X.base) I.ok.mod.kin M.kp (thn (ha.run pos pins s σ H _ I h) fun us s1 ⟨vs, H1, I1, r, q⟩ => ⟨I1.kIn, run_makeG M F room g hb hd tk I1 r q⟩) he hpl
theorem pe_makeG0 (M : Mk X.K C f) (F : FnG X.prog X.w X.K X.mg X.base k f fd ps sp) (room : Room (k + 1) X.A) (g : X.A.guards = some []) (hg : Gl X x) (hm : X.mg x = some (.ref C)) (hb : Binds X.K fd ps ds) (hd : Vals dvs ds) (tk : Takes X W)
    (hdb : (x == ("__debug__" : Str)) = false := by decide) : PE X (.Call (.Name x p) [] [] pos) (tMakeG C sp dvs W tNil) := by
  constructor
  intro pins s σ H Q I h
  refine wpAny_Call_Name_kw (ld_glob I hg hm ?_ hdb)
  exact PySem.W.callWith_K0 I.kIn M.kp (run_makeG (us := []) (vs := []) M F room g hb hd tk I .nil h)
end
end VL

namespace VL
open PySem PySem.Spec L2
open PyProof.Rows (envOfC)

/-! ### tests -/
def vTst (r : VE) : VT := fun ρ φ ε => r ρ (fun o ρ' => match o with
  | .sh (.sc (.bl b)) => φ b ρ'
  | _ => False) ε
def vAnd (ra rb : VT) : VT := fun ρ φ ε => ra ρ (fun b ρ1 => if b = true then rb ρ1 φ ε else φ false ρ1) ε
def vOr (ra rb : VT) : VT := fun ρ φ ε => ra ρ (fun b ρ1 => if b = true then φ true ρ1 else rb ρ1 φ ε) ε
def vNot (ra : VT) : VT := fun ρ φ ε => ra ρ (fun b ρ1 => φ (!b) ρ1) ε
def vIf (rc : VT) (ra rb : VE) : VE := fun ρ φ ε => rc ρ (fun b ρ1 => if b = true then ra ρ1 φ ε else rb ρ1 φ ε) ε
def vAndV (ra rb : VE) : VE := fun ρ φ ε => ra ρ (fun o ρ' => match o with
  | .sh (.sc (.bl b)) => if b = true then rb ρ' φ ε else φ (.sh (.sc (.bl false))) ρ'
  | _ => False) ε
def vOrV (ra rb : VE) : VE := fun ρ φ ε => ra ρ (fun o ρ' => match o with
  | .sh (.sc (.bl b)) => if b = true then φ (.sh (.sc (.bl true))) ρ' else rb ρ' φ ε
  | _ => False) ε
def vNotV (ra : VE) : VE := fun ρ φ ε => ra ρ (fun o ρ' => match o with
  | .sh (.sc (.bl b)) => φ (.sh (.sc (.bl (!b)))) ρ'
  | _ => False) ε
theorem isBlO {o : O} {P : Bool → Prop} (h : match o with | .sh (.sc (.bl b)) => P b | _ => False) : ∃ b, o = .sh (.sc (.bl b)) ∧ P b := by
  cases o with
  | sh d =>
    cases d with
    | sc s =>
      cases s with
      | bl b => exact ⟨b, rfl, h⟩
      | _ => exact h.elim
    | nd l cs => exact h.elim
  | _ => exact h.elim
section
variable {K : PySem.W.Frag} {S : Addr → Prop} {AA : List Addr} {H : Hp}
theorem RelA.bl {v : V} {b : Bool} {xs : List (Option V)} {os : List O} (r : RelA K S AA H (some v :: xs) (.sh (.sc (.bl b)) :: os)) : v = .bl b := by
  cases r.read1 (d := .sc (.bl b)) rfl
  rfl
end
section
variable {K : PySem.W.Frag} {W : WX} {pa pb pc : Bool} {ta tb : TE} {ra rb : VE} {tA tB' : TT} {rA rB : VT}
theorem snd_tst (ha : SndE K W pa ta ra) : SndT K W pa (tTest ta) (vTst ra) := by
  intro S AA H σ ρ φ ε Q r l hQ h
  refine ha S AA H σ ρ _ ε _ r l (fun v1 H1 o1 ρ1 A1 h1 r1 x1 p1 => ?_) h
  obtain ⟨b, e, h2⟩ := isBlO h1
  subst e
  obtain rfl := r1.bl
  obtain ⟨A4, r4, s4⟩ := r1.drop1
  exact ⟨b, rfl, hQ b H1 ρ1 A4 h2 r4 (x1.sub s4) p1⟩
theorem snd_and (ha : SndT K W pa tA rA) (hb : SndT K W pb tB' rB) : SndT K W (pa && pb) (tAnd tA tB') (vAnd rA rB) := by
  intro S AA H σ ρ φ ε Q r l hQ h
  refine ha S AA H σ ρ _ ε _ r l (fun b H1 ρ1 A1 h1 r1 x1 p1 => ?_) h
  cases b with
  | true =>
    rw [if_pos rfl] at h1 ⊢
    refine hb S A1 H1 σ ρ1 φ ε Q r1 (l.step x1) (fun c H2 ρ2 A2 h2 r2 x2 p2 => hQ c H2 ρ2 A2 h2 r2 (x1.trans x2) fun e => ?_) h1
    obtain ⟨ea, eb⟩ := and2 e
    exact ⟨(p2 eb).1.trans (p1 ea).1, Same.trans (p1 ea).2 (p2 eb).2⟩
  | false =>
    rw [if_neg Bool.false_ne_true] at h1 ⊢
    exact hQ false H1 ρ1 A1 h1 r1 x1 fun e => p1 (and2 e).1
theorem snd_or (ha : SndT K W pa tA rA) (hb : SndT K W pb tB' rB) : SndT K W (pa && pb) (tOr tA tB') (vOr rA rB) := by
  intro S AA H σ ρ φ ε Q r l hQ h
  refine ha S AA H σ ρ _ ε _ r l (fun b H1 ρ1 A1 h1 r1 x1 p1 => ?_) h
  cases b with
  | true =>
    rw [if_pos rfl] at h1 ⊢
    exact hQ true H1 ρ1 A1 h1 r1 x1 fun e => p1 (and2 e).1
  | false =>
    rw [if_neg Bool.false_ne_true] at h1 ⊢
    refine hb S A1 H1 σ ρ1 φ ε Q r1 (l.step x1) (fun c H2 ρ2 A2 h2 r2 x2 p2 => hQ c H2 ρ2 A2 h2 r2 (x1.trans x2) fun e => ?_) h1
    obtain ⟨ea, eb⟩ := and2 e
    exact ⟨(p2 eb).1.trans (p1 ea).1, Same.trans (p1 ea).2 (p2 eb).2⟩
theorem snd_not (ha : SndT K W pa tA rA) : SndT K W pa (tNot tA) (vNot rA) := by
  intro S AA H σ ρ φ ε Q r l hQ h
  exact ha S AA H σ ρ _ ε _ r l (fun b H1 ρ1 A1 h1 r1 x1 p1 => hQ (!b) H1 ρ1 A1 h1 r1 x1 p1) h
theorem snd_if (hc : SndT K W pc tA rA) (ha : SndE K W pa ta ra) (hb : SndE K W pb tb rb) : SndE K W (pc && (pa && pb)) (tIf tA ta tb) (vIf rA ra rb) := by
  intro S AA H σ ρ φ ε Q r l hQ h
  refine hc S AA H σ ρ _ ε _ r l (fun b H1 ρ1 A1 h1 r1 x1 p1 => ?_) h
  cases b with
  | true =>
    rw [if_pos rfl] at h1 ⊢
    refine ha S A1 H1 σ ρ1 φ ε Q r1 (l.step x1) (fun v H2 o ρ2 A2 h2 r2 x2 p2 => hQ v H2 o ρ2 A2 h2 r2 (x1.trans x2) fun e => ?_) h1
    obtain ⟨ea, eb⟩ := and2 e
    obtain ⟨eb, _⟩ := and2 eb
    exact ⟨(p2 eb).1.trans (p1 ea).1, Same.trans (p1 ea).2 (p2 eb).2⟩
  | false =>
    rw [if_neg Bool.false_ne_true] at h1 ⊢
    refine hb S A1 H1 σ ρ1 φ ε Q r1 (l.step x1) (fun v H2 o ρ2 A2 h2 r2 x2 p2 => hQ v H2 o ρ2 A2 h2 r2 (x1.trans x2) fun e => ?_) h1
    obtain ⟨ea, eb⟩ := and2 e
    obtain ⟨_, eb⟩ := and2 eb
    exact ⟨(p2 eb).1.trans (p1 ea).1, Same.trans (p1 ea).2 (p2 eb).2⟩
theorem snd_andV (ha : SndE K W pa ta ra) (hb : SndE K W pb tb rb) : SndE K W (pa && pb) (tAndV ta tb) (vAndV ra rb) := by
  intro S AA H σ ρ φ ε Q r l hQ h
  refine ha S AA H σ ρ _ ε _ r l (fun v1 H1 o1 ρ1 A1 h1 r1 x1 p1 => ?_) h
  obtain ⟨b, e, h2⟩ := isBlO (P := fun b => if b = true then rb ρ1 φ ε else φ (.sh (.sc (.bl false))) ρ1) h1
  subst e
  obtain rfl := r1.bl
  obtain ⟨A4, r4, s4⟩ := r1.drop1
  refine ⟨b, rfl, ?_⟩
  cases b with
  | true =>
    rw [if_pos rfl] at h2 ⊢
    refine hb S A4 H1 σ ρ1 φ ε Q r4 (l.step (x1.sub s4)) (fun v H2 o ρ2 A2 h2 r2 x2 p2 => hQ v H2 o ρ2 A2 h2 r2 ((x1.sub s4).trans x2) fun e => ?_) h2
    obtain ⟨ea, eb⟩ := and2 e
    exact ⟨(p2 eb).1.trans (p1 ea).1, Same.trans (p1 ea).2 (p2 eb).2⟩
  | false =>
    rw [if_neg Bool.false_ne_true] at h2 ⊢
    exact hQ _ H1 _ ρ1 A4 h2 (r4.sc (.bl false)) (x1.sub s4) fun e => p1 (and2 e).1
theorem snd_orV (ha : SndE K W pa ta ra) (hb : SndE K W pb tb rb) : SndE K W (pa && pb) (tOrV ta tb) (vOrV ra rb) := by
  intro S AA H σ ρ φ ε Q r l hQ h
  refine ha S AA H σ ρ _ ε _ r l (fun v1 H1 o1 ρ1 A1 h1 r1 x1 p1 => ?_) h
  obtain ⟨b, e, h2⟩ := isBlO (P := fun b => if b = true then φ (.sh (.sc (.bl true))) ρ1 else rb ρ1 φ ε) h1
  subst e
  obtain rfl := r1.bl
  obtain ⟨A4, r4, s4⟩ := r1.drop1
  refine ⟨b, rfl, ?_⟩
  cases b with
  | true =>
    rw [if_pos rfl] at h2 ⊢
    exact hQ _ H1 _ ρ1 A4 h2 (r4.sc (.bl true)) (x1.sub s4) fun e => p1 (and2 e).1
  | false =>
    rw [if_neg Bool.false_ne_true] at h2 ⊢
    refine hb S A4 H1 σ ρ1 φ ε Q r4 (l.step (x1.sub s4)) (fun v H2 o ρ2 A2 h2 r2 x2 p2 => hQ v H2 o ρ2 A2 h2 r2 ((x1.sub s4).trans x2) fun e => ?_) h2
    obtain ⟨ea, eb⟩ := and2 e
    exact ⟨(p2 eb).1.trans (p1 ea).1, Same.trans (p1 ea).2 (p2 eb).2⟩
theorem snd_notV (ha : SndE K W pa ta ra) : SndE K W pa (tNotV ta) (vNotV ra) := by
  intro S AA H σ ρ φ ε Q r l hQ h
  refine ha S AA H σ ρ _ ε _ r l (fun v1 H1 o1 ρ1 A1 h1 r1 x1 p1 => ?_) h
  obtain ⟨b, e, h2⟩ := isBlO (P := fun b => φ (.sh (.sc (.bl (!b)))) ρ1) h1
  subst e
  obtain rfl := r1.bl
  obtain ⟨A4, r4, s4⟩ := r1.drop1
  exact ⟨b, rfl, hQ _ H1 _ ρ1 A4 h2 (r4.sc (.bl (!b))) (x1.sub s4) p1⟩
end
section
variable {X : Cx} {W : WX} {pa pb pc : Bool} {a b c e : Expr} {es : List Expr} {ra rb : VE} {rA rB : VT} {pos : Pos}
theorem tv_cmp {q_ : Bool} {op : CmpOp} {rd : R2} {g : GN} (ho : OpR X (compareOp op) rd) (hs : Srv X.K (r2 rd) g) (ha : Ev X W pa a ra) (hb : Ev X W pb b rb) (hm : behindInMarks op b = false) (hq_ : (pa && pb) = q_ := by rfl) : Tv X W q_ (.Compare a [op] [b] pos) (vTst (vBin pb g ra rb)) := by
  subst hq_
  obtain ⟨ta, ea, sa⟩ := ha.ex
  obtain ⟨tb, eb, sb⟩ := hb.ex
  exact ⟨_, pt_cmpR ho ea eb hm, snd_tst (snd_bin hs sa sb)⟩
theorem tv_val (ha : Ev X W pa e ra) (he : ∀ whole, isTrue e X.env whole = (do let v ← whole; standAt e.pos; holding [v] (truthy v)) := by intro _; rfl) : Tv X W pa e (vTst ra) := by
  obtain ⟨ta, ea, sa⟩ := ha.ex
  exact ⟨_, pt_val ea he, snd_tst sa⟩
theorem wv_and1 (ha : Tv X W pa a rA) : Wv X W pa (.BoolOp .And [a] pos) rA := by
  obtain ⟨ta, ea, sa⟩ := ha.ex
  exact ⟨_, pw_and1 ea, sa⟩
theorem wv_or1 (ha : Tv X W pa a rA) : Wv X W pa (.BoolOp .Or [a] pos) rA := by
  obtain ⟨ta, ea, sa⟩ := ha.ex
  exact ⟨_, pw_or1 ea, sa⟩
theorem wv_and {q_ : Bool} (ha : Tv X W pa a rA) (hb : Wv X W pb (.BoolOp .And (b :: es) pos) rB) (hq_ : (pa && pb) = q_ := by rfl) : Wv X W q_ (.BoolOp .And (a :: b :: es) pos) (vAnd rA rB) := by
  subst hq_
  obtain ⟨ta, ea, sa⟩ := ha.ex
  obtain ⟨tb, eb, sb⟩ := hb.ex
  exact ⟨_, pw_and ea eb, snd_and sa sb⟩
theorem wv_or {q_ : Bool} (ha : Tv X W pa a rA) (hb : Wv X W pb (.BoolOp .Or (b :: es) pos) rB) (hq_ : (pa && pb) = q_ := by rfl) : Wv X W q_ (.BoolOp .Or (a :: b :: es) pos) (vOr rA rB) := by
  subst hq_
  obtain ⟨ta, ea, sa⟩ := ha.ex
  obtain ⟨tb, eb, sb⟩ := hb.ex
  exact ⟨_, pw_or ea eb, snd_or sa sb⟩
theorem tv_w (ha : Wv X W pa e rA) : Tv X W pa e rA := by
  obtain ⟨ta, ea, sa⟩ := ha.ex
  exact ⟨_, ea.pt, sa⟩
theorem tv_not (ha : Tv X W pa a rA) : Tv X W pa (.UnaryOp .Not a pos) (vNot rA) := by
  obtain ⟨ta, ea, sa⟩ := ha.ex
  exact ⟨_, pt_not ea, snd_not sa⟩
theorem ev_if {q_ : Bool} (hc : Tv X W pc c rA) (ha : Ev X W pa a ra) (hb : Ev X W pb b rb) (hq_ : (pc && (pa && pb)) = q_ := by rfl) : Ev X W q_ (.IfExp c a b pos) (vIf rA ra rb) := by
  subst hq_
  obtain ⟨tc, ec, sc⟩ := hc.ex
  obtain ⟨ta, ea, sa⟩ := ha.ex
  obtain ⟨tb, eb, sb⟩ := hb.ex
  exact ⟨_, pe_ifExp ec ea eb, snd_if sc sa sb⟩
theorem ev_one {op} (ha : Ev X W pa a ra) : Ev X W pa (.BoolOp op [a] pos) ra := by
  obtain ⟨ta, ea, sa⟩ := ha.ex
  exact ⟨_, pe_one ea, sa⟩
theorem ev_and {q_ : Bool} (ha : Ev X W pa a ra) (hb : Ev X W pb (.BoolOp .And (b :: es) pos) rb) (hq_ : (pa && pb) = q_ := by rfl) : Ev X W q_ (.BoolOp .And (a :: b :: es) pos) (vAndV ra rb) := by
  subst hq_
  obtain ⟨ta, ea, sa⟩ := ha.ex
  obtain ⟨tb, eb, sb⟩ := hb.ex
  exact ⟨_, pe_and ea eb, snd_andV sa sb⟩
theorem ev_or {q_ : Bool} (ha : Ev X W pa a ra) (hb : Ev X W pb (.BoolOp .Or (b :: es) pos) rb) (hq_ : (pa && pb) = q_ := by rfl) : Ev X W q_ (.BoolOp .Or (a :: b :: es) pos) (vOrV ra rb) := by
  subst hq_
  obtain ⟨ta, ea, sa⟩ := ha.ex
  obtain ⟨tb, eb, sb⟩ := hb.ex
  exact ⟨_, pe_or ea eb, snd_orV sa sb⟩
theorem ev_not (ha : Ev X W pa a ra) : Ev X W pa (.UnaryOp .Not a pos) (vNotV ra) := by
  obtain ⟨ta, ea, sa⟩ := ha.ex
  exact ⟨_, pe_not ea, snd_notV sa⟩
end

/-! ### slots are stored -/
section
variable {K : PySem.W.Frag} {S : Addr → Prop} {AA : List Addr} {H : Hp}
theorem RelA.len {xs : List (Option V)} {os : List O} (r : RelA K S AA H xs os) : xs.length = os.length := r.rp.length
theorem nodup_mid {A1 A0 A2 AA A' : List Addr} (h : AA = A0 ++ (A1 ++ A' ++ A2)) (n : AA.Nodup) : (A1 ++ A0 ++ A2).Nodup ∧ ∀ a ∈ A1 ++ A0 ++ A2, a ∈ AA := by
  subst h
  refine ⟨?_, fun a ha => ?_⟩
  · have p : (A0 ++ (A1 ++ A2)).Perm (A1 ++ A0 ++ A2) := by
      rw [List.append_assoc]
      exact (List.perm_append_comm_assoc A0 A1 A2)
    refine p.nodup (n.sublist ?_)
    refine List.Sublist.append (List.Sublist.refl _) ?_
    rw [List.append_assoc]
    exact List.Sublist.append (List.Sublist.refl _) (List.sublist_append_right _ _)
  · simp only [List.mem_append] at ha ⊢
    rcases ha with (ha | ha) | ha
    · exact .inr (.inl (.inl ha))
    · exact .inl ha
    · exact .inr (.inr ha)
/-- the first root goes to place i (what stood there goes) -/
theorem RelA.store {x : Option V} {o : O} {xs : List (Option V)} {os : List O} (r : RelA K S AA H (x :: xs) (o :: os)) (i : Nat) : ∃ AA', RelA K S AA' H (xs.set i x) (os.set i o) ∧ ∀ a ∈ AA', a ∈ AA := by
  by_cases hi : i < os.length
  · obtain ⟨A0, A, e, h1, h2⟩ : ∃ A0 A, AA = A0 ++ A ∧ RpO K H (fun a => S a ∨ a ∈ AA) x o A0 ∧ RpOs K H (fun a => S a ∨ a ∈ AA) xs os A := by
      have h0 := r.rp
      generalize hB : (fun a => S a ∨ a ∈ AA) = B at h0 ⊢
      cases h0 with
      | cons h1 h2 => exact ⟨_, _, rfl, h1, h2⟩
    obtain ⟨y, A1, A', A2, e1, e2, h3, h4⟩ := h2.set (i := i) (o := os[i]) (List.getElem?_eq_getElem hi)
    have q := h4 x o A0 h1
    rw [e1] at e
    obtain ⟨n1, n2⟩ := nodup_mid e r.nd
    exact ⟨_, ⟨RpOs.pure (Keep.here fun a z => z.imp_right (n2 a)) (Same.refl H) _ q, n1, fun a ha => r.ns a (n2 a ha), r.st⟩, n2⟩
  · have hl := r.len
    rw [List.length_cons, List.length_cons] at hl
    rw [List.set_eq_of_length_le (by omega), List.set_eq_of_length_le (by omega)]
    exact r.drop1
end

/-! ### blocks, small statements -/
def vNx : VS := fun ρ k _ => k.nx ρ
def vSeq (ra rb : VS) : VS := fun ρ k ε => ra ρ { nx := fun ρ1 => rb ρ1 k ε, rt := k.rt, bk := k.bk, ct := k.ct } ε
def vBk : VS := fun ρ k _ => k.bk ρ
def vCt : VS := fun ρ k _ => k.ct ρ
def vDrop (r : VE) : VS := fun ρ k ε => r ρ (fun _ ρ1 => k.nx ρ1) ε
def vRet (r : VE) : VS := fun ρ k ε => r ρ (fun o ρ1 => k.rt o ρ1) ε
def vRetN : VS := fun ρ k _ => k.rt (.sh (.sc .non)) ρ
def vIfS (rc : VT) (ra rb : VS) : VS := fun ρ k ε => rc ρ (fun b ρ1 => if b = true then ra ρ1 k ε else rb ρ1 k ε) ε
def vSet (i : Nat) (r : VE) : VS := fun ρ k ε => r ρ (fun o ρ1 => k.nx (ρ1.set i o)) ε
section
variable {K : PySem.W.Frag} {W : WX} {io : List Nat} {p : Bool} {ta tb : TS} {ra rb : VS} {te : TE} {re : VE} {tc : TT} {rc : VT}
theorem snd_nx : SndS K W io tNext vNx := by
  intro S AA H σ ρ k ε D r l hn hr hb hc h
  exact hn σ H ρ AA h .refl r .refl
theorem snd_bk : SndS K W io tBreak vBk := by
  intro S AA H σ ρ k ε D r l hn hr hb hc h
  exact hb σ H ρ AA h .refl r .refl
theorem snd_ct : SndS K W io tCont vCt := by
  intro S AA H σ ρ k ε D r l hn hr hb hc h
  exact hc σ H ρ AA h .refl r .refl
theorem snd_seq (ha : SndS K W io ta ra) (hb : SndS K W io tb rb) : SndS K W io (tSeq ta tb) (vSeq ra rb) := by
  intro S AA H σ ρ k ε D r l hn hr hbk hct h
  refine ha S AA H σ ρ { nx := fun ρ1 => rb ρ1 k ε, rt := k.rt, bk := k.bk, ct := k.ct } ε { D with nx := tb D } r l (fun σ1 H1 ρ1 A1 h1 s1 r1 x1 => ?_) hr hbk hct h
  exact hb S A1 H1 σ1 ρ1 k ε D r1 (l.step s1 x1) (fun σ2 H2 ρ2 A2 h2 s2 r2 x2 => hn σ2 H2 ρ2 A2 h2 (s1.trans s2) r2 (x1.trans x2)) (fun v σ2 H2 o ρ2 A2 h2 s2 r2 x2 => hr v σ2 H2 o ρ2 A2 h2 (s1.trans s2) r2 (x1.trans x2))
    (fun σ2 H2 ρ2 A2 h2 s2 r2 x2 => hbk σ2 H2 ρ2 A2 h2 (s1.trans s2) r2 (x1.trans x2)) (fun σ2 H2 ρ2 A2 h2 s2 r2 x2 => hct σ2 H2 ρ2 A2 h2 (s1.trans s2) r2 (x1.trans x2)) h1
theorem snd_drop (he : SndE K W p te re) : SndS K W io (tDrop te) (vDrop re) := by
  intro S AA H σ ρ k ε D r l hn hr hb hc h
  refine he S AA H σ ρ _ ε _ r l.e (fun v H1 o ρ1 A1 h1 r1 x1 p1 => ?_) h
  obtain ⟨A4, r4, s4⟩ := r1.drop1
  exact hn σ H1 ρ1 A4 h1 .refl r4 (x1.sub s4)
theorem snd_ret (he : SndE K W p te re) : SndS K W io (tRet te) (vRet re) := by
  intro S AA H σ ρ k ε D r l hn hr hb hc h
  exact he S AA H σ ρ _ ε _ r l.e (fun v H1 o ρ1 A1 h1 r1 x1 p1 => hr v σ H1 o ρ1 A1 h1 .refl r1 x1) h
theorem snd_retN : SndS K W io tRetN vRetN := by
  intro S AA H σ ρ k ε D r l hn hr hb hc h
  exact hr .non σ H _ ρ AA h .refl (r.sc .non) .refl
theorem snd_ifS (hc : SndT K W p tc rc) (ha : SndS K W io ta ra) (hb : SndS K W io tb rb) : SndS K W io (tIfS tc ta tb) (vIfS rc ra rb) := by
  intro S AA H σ ρ k ε D r l hn hr hbk hct h
  refine hc S AA H σ ρ _ ε _ r l.e (fun b H1 ρ1 A1 h1 r1 x1 p1 => ?_) h
  have go : ∀ {t : TS} {rr : VS}, SndS K W io t rr → rr ρ1 k ε → t D σ H1 := fun {t rr} hs q =>
    hs S A1 H1 σ ρ1 k ε D r1 (l.step .refl x1) (fun σ2 H2 ρ2 A2 h2 s2 r2 x2 => hn σ2 H2 ρ2 A2 h2 s2 r2 (x1.trans x2)) (fun v σ2 H2 o ρ2 A2 h2 s2 r2 x2 => hr v σ2 H2 o ρ2 A2 h2 s2 r2 (x1.trans x2))
      (fun σ2 H2 ρ2 A2 h2 s2 r2 x2 => hbk σ2 H2 ρ2 A2 h2 s2 r2 (x1.trans x2)) (fun σ2 H2 ρ2 A2 h2 s2 r2 x2 => hct σ2 H2 ρ2 A2 h2 s2 r2 (x1.trans x2)) q
  cases b with
  | true =>
    rw [if_pos rfl] at h1 ⊢
    exact go ha h1
  | false =>
    rw [if_neg Bool.false_ne_true] at h1 ⊢
    exact go hb h1
theorem stOk_set {i : Nat} {σ : L2.St} {x : Option V} (h : io.contains i = false) : StOk io σ (σ.set i x) := by
  refine ⟨List.length_set, fun j hj => ?_⟩
  rw [List.getElem?_set_ne]
  intro e
  subst e
  rw [List.contains_iff_mem.mpr hj] at h
  cases h
theorem snd_set {i : Nat} (hi : io.contains i = false) (he : SndE K W p te re) : SndS K W io (tAsg te (gName i)) (vSet i re) := by
  intro S AA H σ ρ k ε D r l hn hr hb hc h
  refine he S AA H σ ρ _ ε _ r l.e (fun v H1 o ρ1 A1 h1 r1 x1 p1 => ?_) h
  obtain ⟨A4, r4, s4⟩ := r1.store i
  exact hn (σ.set i (some v)) H1 _ A4 h1 (stOk_set hi) r4 (x1.sub s4)
end
section
variable {X : Cx} {W : WX} {io : List Nat} {p : Bool} {st : Stmt} {rest a b : List Stmt} {c e : Expr} {ra rb : VS} {re : VE} {rc : VT} {pos : Pos}
theorem bv_nil : Bv X W io [] vNx := ⟨_, pss_nil, snd_nx⟩
theorem bv_cons (h1 : Sv X W io st ra) (h2 : Bv X W io rest rb) : Bv X W io (st :: rest) (vSeq ra rb) := by
  obtain ⟨ta, ea, sa⟩ := h1.ex
  obtain ⟨tb, eb, sb⟩ := h2.ex
  exact ⟨_, pss_cons ea eb, snd_seq sa sb⟩
theorem bv_one (h1 : Sv X W io st ra) : Bv X W io [st] ra := by
  obtain ⟨ta, ea, sa⟩ := h1.ex
  exact ⟨_, pss_one ea, sa⟩
theorem sv_pass : Sv X W io (.Pass pos) vNx := ⟨_, ps_pass, snd_nx⟩
theorem sv_break : Sv X W io (.Break pos) vBk := ⟨_, ps_break, snd_bk⟩
theorem sv_continue : Sv X W io (.Continue pos) vCt := ⟨_, ps_continue, snd_ct⟩
theorem sv_expr (he : Ev X W p e re) (hs : swapsWith e none pos.line X.env = pure false := by rfl) : Sv X W io (.Expr e pos) (vDrop re) := by
  obtain ⟨te, ee, se⟩ := he.ex
  exact ⟨_, ps_expr ee hs, snd_drop se⟩
theorem sv_ret (he : Ev X W p e re) : Sv X W io (.Return (some e) pos) (vRet re) := by
  obtain ⟨te, ee, se⟩ := he.ex
  exact ⟨_, ps_ret ee, snd_ret se⟩
theorem sv_retN : Sv X W io (.Return none pos) vRetN := ⟨_, ps_retN, snd_retN⟩
theorem sv_if (hc : Tv X W p c rc) (ha : Bv X W io a ra) (hb : Bv X W io b rb) : Sv X W io (.If c a b pos) (vIfS rc ra rb) := by
  obtain ⟨tc, ec, sc⟩ := hc.ex
  obtain ⟨ta, ea, sa⟩ := ha.ex
  obtain ⟨tb, eb, sb⟩ := hb.ex
  exact ⟨_, ps_if ec ea eb, snd_ifS sc sa sb⟩
theorem sv_set {i : Nat} {x : Str} {pos' : Pos} (hN : X.N.Nodup) (he : Ev X W p e re) (hi : X.N[i]? = some x := by rfl) (hx : Loc X.env.scope x := by first | exact .inl rfl | exact .inr rfl) (hio : io.contains i = false := by rfl) (hs : swapsWith e (some (.Name x pos')) pos.line X.env = pure false := by rfl)
    (hf : X.fn x = true ∨ X.env.scope.names.lookup x = some .local := by first | exact .inl rfl | exact .inr rfl) : Sv X W io (.Assign [.Name x pos'] e pos) (vSet i re) := by
  obtain ⟨te, ee, se⟩ := he.ex
  exact ⟨_, ps_set hN hi hx ee hs hf, snd_set hio se⟩
end

/-! ### what a def promises over values -/
abbrev VSp := List O → (O → List O → Prop) → (Exc → List O → Prop) → Prop
def toSp (K : PySem.W.Frag) (n : Nat) (io : List Nat) (sp : VSp) : Sp := fun vs H Q E => ∃ S AA os φ ε, vs.length = n ∧ RelA K S AA H (vs.map some) os ∧ sp os φ ε ∧
  (∀ v H' o outs AA', φ o outs → RelA K S AA' H' (some v :: io.map (fun i => vs[i]?)) (o :: outs) → Ext AA H AA' H' → Q v H') ∧
  (∀ cls d H' exc outs AA', ε exc outs → RelA K S AA' H' (io.map fun i => vs[i]?) outs → Ext AA H AA' H' → XRep K (fun a => S a ∨ a ∈ AA') H' cls d exc → E cls d H')
/-- the def at f keeps the promise -/
def FnV (P : Program) (w : World) (K : PySem.W.Frag) (mg : Str → Option Value) (base : Heap) (k : Nat) (f : Addr) (fd : FuncData) (ps : List Str) (io : List Nat) (sp : VSp) : Prop :=
  FnG P w K mg base k f fd ps (toSp K ps.length io sp)
theorem FnV.mono {P : Program} {w : World} {K : PySem.W.Frag} {mg : Str → Option Value} {base : Heap} {j k : Nat} {f : Addr} {fd : FuncData} {ps : List Str} {io : List Nat} {sp : VSp} (F : FnV P w K mg base j f fd ps io sp) (h : j ≤ k) : FnV P w K mg base k f fd ps io sp :=
  FnG.mono F h
theorem FnV.imp {P : Program} {w : World} {K : PySem.W.Frag} {mg : Str → Option Value} {base : Heap} {k : Nat} {f : Addr} {fd : FuncData} {ps : List Str} {io : List Nat} {sp sp' : VSp} (F : FnV P w K mg base k f fd ps io sp)
    (h : ∀ os φ ε, sp' os φ ε → sp os φ ε) : FnV P w K mg base k f fd ps io sp' :=
  FnG.imp F fun vs H Q E ⟨S, AA, os, φ, ε, h1, h2, h3, h4, h5⟩ => ⟨S, AA, os, φ, ε, h1, h2, h os φ ε h3, h4, h5⟩
def outsOf (io : List Nat) (ρ : Env) : List O := io.map fun i => envAt ρ i
section
variable {K : PySem.W.Frag} {S : Addr → Prop} {AA : List Addr} {H : Hp}
theorem RpOs.tops {B : Addr → Prop} : ∀ (xs : List (Option V)), RpOs K H B xs (xs.map fun _ => .top) []
  | [] => .nil
  | x :: xs => RpOs.cons (A := []) .top (RpOs.tops xs)
theorem start_eq (N : List Str) (vs : List V) : start N vs = vs.map some ++ List.replicate (N.length - vs.length) none := rfl
/-- the place's tree comes ahead; the place is empty then -/
theorem RelA.moveOut {xs : List (Option V)} {os : List O} (r : RelA K S AA H xs os) {i : Nat} {o : O} (ho : os[i]? = some o) : ∃ x AA', xs[i]? = some x ∧ RelA K S AA' H (x :: xs) (o :: os.set i .top) ∧ ∀ a ∈ AA', a ∈ AA := by
  obtain ⟨x, A1, A', A2, e1, e2, h3, h4⟩ := r.rp.set ho
  have q := h4 x .top [] .top
  have es : xs.set i x = xs := by
    apply List.ext_getElem?
    intro j
    by_cases hj : i = j
    · subst hj
      rw [e2, List.getElem?_set_self (List.getElem?_eq_some_iff.mp e2).1]
    · rw [List.getElem?_set_ne hj]
  rw [es, List.append_nil] at q
  have sub : ∀ a ∈ A' ++ (A1 ++ A2), a ∈ AA := fun a ha => by
    rw [e1]
    simp only [List.mem_append] at ha ⊢
    rcases ha with ha | ha | ha
    · exact .inl (.inr ha)
    · exact .inl (.inl ha)
    · exact .inr ha
  have nd : (A' ++ (A1 ++ A2)).Nodup := by
    have p : (A1 ++ A' ++ A2).Perm (A' ++ (A1 ++ A2)) := by
      rw [List.append_assoc]
      exact List.perm_append_comm_assoc A1 A' A2
    exact p.nodup (by rw [← e1]; exact r.nd)
  refine ⟨x, A' ++ (A1 ++ A2), e2, ⟨?_, nd, fun a ha => r.ns a (sub a ha), r.st⟩, sub⟩
  have kp : Keep H H (fun a => S a ∨ a ∈ AA) (fun a => S a ∨ a ∈ A' ++ (A1 ++ A2)) := Keep.here fun a z => z.imp_right (sub a)
  exact RpOs.cons (RpO.pure kp (Same.refl H) _ h3) (RpOs.pure kp (Same.refl H) _ q)
theorem RelA.front {ts xs : List (Option V)} {us os : List O} (r : RelA K S AA H (ts ++ xs) (us ++ os)) (hl : ts.length = us.length) : ∃ AA', RelA K S AA' H ts us ∧ ∀ a ∈ AA', a ∈ AA := by
  obtain ⟨T, A, e, h1, h2, nT, nS⟩ := r.tail hl
  subst e
  exact ⟨T, ⟨RpOs.pure (Keep.here fun a z => z.imp_right (List.mem_append_left _)) (Same.refl H) _ h1, nT, nS, r.st⟩, fun a ha => List.mem_append_left _ ha⟩
def topped : List Nat → List O → List O
  | [], os => os
  | i :: io, os => (topped io os).set i .top
theorem topped_get : ∀ (io : List Nat) (os : List O) {i : Nat}, i ∉ io → (topped io os)[i]? = os[i]?
  | [], _, _, _ => rfl
  | j :: io, os, i, h => by
    have h1 : j ≠ i := fun e => h (e ▸ List.mem_cons_self)
    have h2 : i ∉ io := fun z => h (List.mem_cons_of_mem _ z)
    show ((topped io os).set j .top)[i]? = _
    rw [List.getElem?_set_ne h1, topped_get io os h2]
/-- picked roots, each at most once -/
theorem RelA.pick {xs : List (Option V)} {os : List O} (r : RelA K S AA H xs os) : ∀ (io : List Nat), io.Nodup → (∀ i ∈ io, i < os.length) → ∃ AA', RelA K S AA' H ((io.map fun i => (xs[i]?).getD none) ++ xs) ((io.map fun i => envAt os i) ++ topped io os) ∧ ∀ a ∈ AA', a ∈ AA
  | [], _, _ => ⟨AA, r, fun _ h => h⟩
  | i :: io, hn, hl => by
    obtain ⟨n1, n2⟩ := List.nodup_cons.mp hn
    obtain ⟨A1, r1, s1⟩ := RelA.pick r io n2 fun j hj => hl j (List.mem_cons_of_mem _ hj)
    have hi : i < os.length := hl i List.mem_cons_self
    have e0 : os[i]? = some (envAt os i) := by
      unfold envAt
      rw [List.getElem?_eq_getElem hi]
      rfl
    have e1 : ((io.map fun i => envAt os i) ++ topped io os)[io.length + i]? = some (envAt os i) := by
      rw [List.getElem?_append_right (by simp), List.length_map, Nat.add_sub_cancel_left, topped_get io os n1, e0]
    obtain ⟨x, A2, hx, r2, s2⟩ := r1.moveOut e1
    have ex : x = (xs[i]?).getD none := by
      rw [List.getElem?_append_right (by simp), List.length_map, Nat.add_sub_cancel_left] at hx
      rw [hx]
      rfl
    have es : ((io.map fun i => envAt os i) ++ topped io os).set (io.length + i) .top = (io.map fun i => envAt os i) ++ topped (i :: io) os := by
      rw [List.set_append_right _ _ (by simp), List.length_map, Nat.add_sub_cancel_left]
      rfl
    rw [es, ex] at r2
    exact ⟨A2, r2, fun a ha => s1 a (s2 a ha)⟩
theorem RelA.outs {xs : List (Option V)} {os : List O} {ts : List (Option V)} {us : List O} (r : RelA K S AA H (ts ++ xs) (us ++ os)) (hl : ts.length = us.length) (io : List Nat) (hn : io.Nodup) (hi : ∀ i ∈ io, i < os.length) :
    ∃ AA', RelA K S AA' H (ts ++ io.map fun i => (xs[i]?).getD none) (us ++ outsOf io os) ∧ ∀ a ∈ AA', a ∈ AA := by
  obtain ⟨T, A, e, h1, h2, nT, nS⟩ := r.tail hl
  subst e
  obtain ⟨A1, r1, s1⟩ := h2.pick io hn hi
  obtain ⟨A2, r2, s2⟩ := r1.front (by simp)
  have dis : ∀ a ∈ T, a ∉ A := fun a ha hb => (List.nodup_append.mp r.nd).2.2 a ha a hb rfl
  have sA : ∀ a ∈ A2, a ∈ A := fun a ha => s1 a (s2 a ha)
  have j := RelA.join h1 nT nS dis ((Ext.refl (AA := A) (H := H)).sub sA) r2 (.inr ⟨rfl, Same.refl H⟩)
  exact ⟨T ++ A2, j, fun a ha => by
    rcases List.mem_append.mp ha with ha | ha
    · exact List.mem_append_left _ ha
    · exact List.mem_append_right _ (sA a ha)⟩
end
/-- a def's body, in its context -/
def BodyV (P : Program) (w : World) (K : PySem.W.Frag) (mg : Str → Option Value) (base : Heap) (qual : Str) (body : List Stmt) (scope : Scope) (f : Addr) (N : List Str) (k : Nat) (io : List Nat) (r : VS) : Prop :=
  ∀ (cdv : Value) (A : Around) (outer : List PySem.Env) (s : Shared) (H : Hp) (E : XK), Room k (A.deeper (envOfC qual scope s.heap.objs.size f cdv)) → (A.deeper (envOfC qual scope s.heap.objs.size f cdv)).guards = some [] →
    Takes (cxOf (L2.CX P w) P w K mg base N qual scope f cdv A outer s H E) (fun cls d _ H => E cls d H) → PassesOwn (model P w) (A.deeper (envOfC qual scope s.heap.objs.size f cdv)) (envOfC qual scope s.heap.objs.size f cdv) (cxOf (L2.CX P w) P w K mg base N qual scope f cdv A outer s H E).xe →
      Bv (cxOf (L2.CX P w) P w K mg base N qual scope f cdv A outer s H E) (fun cls d _ H => E cls d H) io body r
/-- .. and what its reading gives -/
def PureV (n m : Nat) (io : List Nat) (r : VS) (sp : VSp) : Prop := ∀ (os : List O) (φ : O → List O → Prop) (ε : Exc → List O → Prop), sp os φ ε → os.length = n →
  r (os ++ List.replicate (m - n) .top) { nx := fun ρ => φ (.sh (.sc .non)) (outsOf io ρ), rt := fun o ρ => φ o (outsOf io ρ) } (fun e ρ => ε e (outsOf io ρ))
theorem replicate_map (n : Nat) : (List.replicate n (none : Option V)).map (fun _ => O.top) = List.replicate n .top := by
  rw [List.map_replicate]
/-- THE RULE for a def -/
theorem fnv_of {P : Program} {w : World} {K : PySem.W.Frag} {mg : Str → Option Value} {base : Heap} {x qual : Str} {params : Arguments} {body : List Stmt} {scope : Scope} {dvs : List V} {kws : List (Str × V)} {f : Addr} {fd : FuncData} {N ps : List Str} {k : Nat} {io : List Nat} {sp : VSp} {r : VS}
    (F : FunD K x qual params body scope dvs kws f fd) (Sc : FnScope N ps scope) (hio : io.Nodup) (hio2 : ∀ i ∈ io, i < ps.length)
    (hb : BodyV P w K mg base qual body scope f N k io r) (hp : PureV ps.length N.length io r sp) : FnV P w K mg base (k + 1) f fd ps io sp := by
  have hpl : ps.length ≤ N.length := by have := congrArg List.length Sc.pre; rw [List.length_take] at this; omega
  obtain ⟨oc, od, dV, kV, doc, pm, an, cdv, ct, osl, rfl, lk, hcd, _, _⟩ := F.ex
  refine fng_of lk hcd Sc (fun vs H Q E h => ?_) (fun A outer s H vs Q E hr g h => ?_)
  · obtain ⟨S, AA, os, φ, ε, h1, _⟩ := h
    exact h1
  · obtain ⟨S, AA, os, φ, ε, hl, rel, hsp, hQ, hE⟩ := h
    have tk : Takes (cxOf (L2.CX P w) P w K mg base N qual scope f cdv A outer s H E) (fun cls d _ H => E cls d H) := takes_of rfl rfl rfl rfl
    obtain ⟨t, ht, snd⟩ := (hb cdv A outer s H E hr g tk (passes_of (X := cxOf (L2.CX P w) P w K mg base N qual scope f cdv A outer s H E) rfl)).ex
    refine ⟨t, ht, ?_⟩
    have lo : vs.length = os.length := by
      have := rel.len
      rwa [List.length_map] at this
    have hos : os.length = ps.length := lo.symm.trans hl
    have pure := hp os φ ε hsp hos
    have rel0 : RelA K S AA H (start N vs) (os ++ List.replicate (N.length - ps.length) .top) := by
      refine ⟨?_, rel.nd, rel.ns, rel.st⟩
      have q := RpOs.app rel.rp (RpOs.tops (K := K) (H := H) (B := fun a => S a ∨ a ∈ AA) (List.replicate (N.length - vs.length) (none : Option V)))
      rw [List.append_nil, List.map_replicate, hl] at q
      rw [start_eq, hl]
      exact q
    have lenT : ∀ (σ' : L2.St) (ρ' : Env), σ'.length = ρ'.length → StOk io (start N vs) σ' → ∀ i ∈ io, i < ρ'.length := fun σ' ρ' e so i hi => by
      rw [← e, so.1, start_eq, List.length_append, List.length_map, List.length_replicate, hl]
      have := hio2 i hi
      omega
    have same : ∀ (σ' : L2.St), StOk io (start N vs) σ' → (io.map fun i => (σ'[i]?).getD none) = io.map fun i => vs[i]? := fun σ' so => by
      apply List.map_congr_left
      intro i hi
      have hi' : i < vs.length := by rw [hl]; exact hio2 i hi
      rw [so.2 i hi, start_eq, List.getElem?_append_left (by simpa using hi'), List.getElem?_map, List.getElem?_eq_getElem hi']
      rfl
    have retE : ∀ v σ' H' o ρ' AA', φ o (outsOf io ρ') → StOk io (start N vs) σ' → RelA K S AA' H' (some v :: σ') (o :: ρ') → Ext AA H AA' H' → Q v H' := fun v σ' H' o ρ' AA' h1 so r x => by
      have hlen : σ'.length = ρ'.length := by
        have := r.len
        simpa using this
      obtain ⟨A2, r2, s2⟩ := RelA.outs (ts := [some v]) (us := [o]) (xs := σ') (os := ρ') r rfl io hio (lenT σ' ρ' hlen so)
      rw [same σ' so] at r2
      exact hQ v H' o (outsOf io ρ') A2 h1 r2 (x.sub s2)
    refine snd S AA H (start N vs) _ { nx := fun ρ => φ (.sh (.sc .non)) (outsOf io ρ), rt := fun o ρ => φ o (outsOf io ρ) } (fun e ρ => ε e (outsOf io ρ)) { nx := fun _ H' => Q .non H', rt := Q } rel0 (fun σ' cls d H' ρ' exc AA' so r x xr he => ?_) (fun σ' H' ρ' AA' h1 so r x => ?_) retE (fun σ' H' ρ' AA' h1 so r x => h1.elim) (fun σ' H' ρ' AA' h1 so r x => h1.elim) pure
    · obtain ⟨A2, r2, s2⟩ := RelA.outs (ts := []) (us := []) (xs := σ') (os := ρ') r rfl io hio (lenT σ' ρ' r.len so)
      rw [same σ' so] at r2
      refine hE cls d H' exc (outsOf io ρ') A2 he r2 (x.sub s2) ?_
      refine ⟨xr.1, ?_⟩
      have q := xr.2
      cases e : exc.f with
      | none =>
        rw [e] at q
        exact q
      | some p =>
        obtain ⟨fn, y⟩ := p
        rw [e] at q
        obtain ⟨a, v, q1, nb, q2, q3⟩ := q
        exact ⟨a, v, q1, fun z => nb (z.imp_right (s2 a)), q2, q3.keep (Keep.here fun b z => z.imp_right (s2 b))⟩
    · exact retE .non σ' H' (.sh (.sc .non)) ρ' AA' h1 so (r.sc .non) x

end VL

namespace VL
open PySem PySem.Spec L2

/-! ### arguments of a call: by value, or a name whose object is lent -/
def Slots (sl : List (Option Nat)) (σ : L2.St) (vs : List V) : Prop := sl.length = vs.length ∧ ∀ (j i : Nat), sl[j]? = some (some i) → ∃ v, vs[j]? = some v ∧ σ[i]? = some (some v)
def SndX (K : PySem.W.Frag) (W : WX) (p : Bool) (sl : List (Option Nat)) (t : TA) (r : VA) : Prop := ∀ (S : Addr → Prop) (AA : List Addr) (H : Hp) (σ : L2.St) (ρ : Env) (φ : List O → Env → Prop) (ε : XP) (Q : List V → Hp → Prop), RelA K S AA H σ ρ → LinkE K S AA H W σ ε →
  (∀ vs H' os ρ' AA', φ os ρ' → vs.length = os.length → Slots sl σ vs → RelA K S AA' H' (vs.map some ++ σ) (os ++ ρ') → Ext AA H AA' H' → (p = true → ρ' = ρ ∧ Same H H') → Q vs H') → r ρ φ ε → t σ H Q
structure Xv (X : Cx) (W : WX) (p : Bool) (sl : List (Option Nat)) (es : List Expr) (r : VA) : Prop where
  ex : ∃ t, PA X es t ∧ SndX X.K W p sl t r
/-- the name of a lent object -/
def vLent (i : Nat) (rr : VA) : VA := fun ρ φ ε => (match envAt ρ i with
  | .ow _ _ => True
  | .dp _ _ => True
  | _ => False) ∧ rr ρ (fun os ρ2 => φ (.top :: os) ρ2) ε
section
variable {K : PySem.W.Frag} {W : WX} {pa pb : Bool} {ta : TE} {ra : VE} {tr : TA} {rr : VA} {sl : List (Option Nat)}
theorem slx_nil : SndX K W true [] tNil vNil := by
  intro S AA H σ ρ φ ε Q r l hQ h
  exact hQ [] H [] ρ AA h rfl ⟨rfl, fun j i e => by cases e⟩ r Ext.refl fun _ => ⟨rfl, Same.refl H⟩
theorem slots_cons {σ : L2.St} {v : V} {vs : List V} {s : Option Nat} (h : Slots sl σ vs) (hs : ∀ i, s = some i → σ[i]? = some (some v)) : Slots (s :: sl) σ (v :: vs) := by
  refine ⟨by rw [List.length_cons, List.length_cons, h.1], fun j i e => ?_⟩
  cases j with
  | zero =>
    have e' : s = some i := by simpa using e
    exact ⟨v, rfl, hs i e'⟩
  | succ j =>
    obtain ⟨u, e1, e2⟩ := h.2 j i (by simpa using e)
    exact ⟨u, by simpa using e1, e2⟩
theorem slx_val (ha : SndE K W pa ta ra) (hb : SndX K W pb sl tr rr) : SndX K W (pa && pb) (none :: sl) (tCons ta tr) (vCons pb ra rr) := by
  intro S AA H σ ρ φ ε Q r l hQ h
  refine ha S AA H σ ρ _ ε _ r l (fun v1 H1 o1 ρ1 A1 h1 r1 x1 p1 => ?_) h
  obtain ⟨T, A, eT, r1', J⟩ := RelA.under (ts := [some v1]) (us := [o1]) (xs := σ) (os := ρ1) r1 rfl pb
  subst eT
  refine hb _ A H1 σ ρ1 _ ε _ r1' (l.step x1).under (fun vs H2 os ρ2 A2 h2 hl hsl r2 x2 p2 => ?_) h1
  obtain ⟨r3, x3⟩ := J A2 H2 (vs.map some ++ σ) (os ++ ρ2) x2 r2 fun e => (p2 e).2
  refine hQ (v1 :: vs) H2 (kl pb o1 :: os) ρ2 _ h2 (by rw [List.length_cons, List.length_cons, hl]) (slots_cons hsl fun i e => by cases e) r3 (x1.trans x3) fun e => ?_
  obtain ⟨ea, eb⟩ := and2 e
  exact ⟨(p2 eb).1.trans (p1 ea).1, Same.trans (p1 ea).2 (p2 eb).2⟩
theorem slx_lent {i : Nat} (hb : SndX K W pb sl tr rr) : SndX K W pb (some i :: sl) (tCons (tVar i) tr) (vLent i rr) := by
  intro S AA H σ ρ φ ε Q r l hQ h
  obtain ⟨h0, h1⟩ := h
  obtain ⟨v, hv⟩ : ∃ v, σ[i]? = some (some v) := by
    cases e : envAt ρ i with
    | ow a b =>
      obtain ⟨x, A, e1, e2⟩ := r.get (envAt_some e (by intro z; cases z))
      cases e2
      exact ⟨_, e1⟩
    | dp a b =>
      obtain ⟨x, A, e1, e2⟩ := r.get (envAt_some e (by intro z; cases z))
      cases e2
      exact ⟨_, e1⟩
    | _ => rw [e] at h0; exact h0.elim
  refine ⟨v, hv, ?_⟩
  refine hb S AA H σ ρ _ ε _ r l (fun vs H2 os ρ2 A2 h2 hl hsl r2 x2 p2 => ?_) h1
  exact hQ (v :: vs) H2 (.top :: os) ρ2 A2 h2 (by rw [List.length_cons, List.length_cons, hl]) (slots_cons hsl fun k e => by cases e; exact hv) (r2.push .top) x2 p2
end
section
variable {X : Cx} {W : WX} {pa pb : Bool} {e : Expr} {es : List Expr} {ra : VE} {rr : VA} {sl : List (Option Nat)}
theorem xv_nil : Xv X W true [] [] vNil := ⟨_, pa_nil, slx_nil⟩
theorem xv_val {q_ : Bool} (ha : Ev X W pa e ra) (hr : Xv X W pb sl es rr) (hs : starEach (e :: es) X.env = (false, eval e X.env) :: starEach es X.env := by rfl) (hq_ : (pa && pb) = q_ := by rfl) : Xv X W q_ (none :: sl) (e :: es) (vCons pb ra rr) := by
  subst hq_
  obtain ⟨ta, ea, sa⟩ := ha.ex
  obtain ⟨tr, er, sr⟩ := hr.ex
  exact ⟨_, pa_cons ea er hs, slx_val sa sr⟩
theorem xv_lent {i : Nat} (ha : PE X e (tVar i)) (hr : Xv X W pb sl es rr) (hs : starEach (e :: es) X.env = (false, eval e X.env) :: starEach es X.env := by rfl) : Xv X W pb (some i :: sl) (e :: es) (vLent i rr) := by
  obtain ⟨tr, er, sr⟩ := hr.ex
  exact ⟨_, pa_cons ha er hs, slx_lent sr⟩
end

/-! ### lent objects come to the arguments, and go back -/
def fill : List (Option Nat) → List O → Env → List O
  | some i :: sl, _ :: os, ρ => envAt ρ i :: fill sl os ρ
  | none :: sl, o :: os, ρ => o :: fill sl os ρ
  | _, os, _ => os
def emptied : List (Option Nat) → Env → Env
  | [], ρ => ρ
  | some i :: sl, ρ => (emptied sl ρ).set i .top
  | none :: sl, ρ => emptied sl ρ
/-- the slots lent, by their turn among the outs -/
def lentOf (sl : List (Option Nat)) : List Nat := sl.filterMap id
def backTo : List Nat → List O → Env → Env
  | i :: is, o :: outs, ρ => (backTo is outs ρ).set i o
  | _, _, ρ => ρ
/-- arguments given away by value; lent ones stay owned -/
def argOk : List (Option Nat) → List O → Option (List O)
  | some _ :: sl, o :: os => match isBor o, argOk sl os with
    | false, some us => some (o :: us)
    | _, _ => none
  | none :: sl, o :: os => match fz o, argOk sl os with
    | some d, some us => some (.sh d :: us)
    | _, _ => none
  | [], [] => some []
  | _, _ => none
def killAll (sl : List (Option Nat)) (ρ : Env) : Env := match lentOf sl with
  | [] => ρ
  | _ :: _ => ρ.map kill
def vCall (sl : List (Option Nat)) (dv : List D) (sp : VSp) (ra : VA) : VE := fun ρ φ ε => ra ρ (fun os ρ1 => match argOk sl (fill sl os ρ1) with
  | some us => sp (us ++ dv.map .sh) (fun o outs => φ o (backTo (lentOf sl) outs (killAll sl (emptied sl ρ1)))) (fun e outs => ε e (backTo (lentOf sl) outs (killAll sl (emptied sl ρ1))))
  | none => False) ε
section
variable {K : PySem.W.Frag} {S : Addr → Prop} {AA : List Addr} {H : Hp}
theorem set_self {α : Type} {xs : List α} {i : Nat} {x : α} (h : xs[i]? = some x) : xs.set i x = xs := by
  apply List.ext_getElem?
  intro j
  by_cases hj : i = j
  · subst hj
    rw [h, List.getElem?_set_self (List.getElem?_eq_some_iff.mp h).1]
  · rw [List.getElem?_set_ne hj]
/-- a tree goes from place i to place j, where the same value stands -/
theorem RelA.trans_ {xs : List (Option V)} {os : List O} (r : RelA K S AA H xs os) {i j : Nat} {o : O} (ho : os[i]? = some o) (hx : xs[j]? = xs[i]?) : ∃ AA', RelA K S AA' H xs ((os.set i .top).set j o) ∧ ∀ a ∈ AA', a ∈ AA := by
  obtain ⟨x, A1, h1, r1, s1⟩ := r.moveOut ho
  obtain ⟨A2, r2, s2⟩ := r1.store j
  rw [set_self (hx.trans h1)] at r2
  exact ⟨A2, r2, fun a ha => s1 a (s2 a ha)⟩
/-- distinct slots -/
def slOk (sl : List (Option Nat)) : Bool := decide (lentOf sl).Nodup
theorem lent_mem {sl : List (Option Nat)} {i : Nat} : i ∈ lentOf sl ↔ some i ∈ sl := by
  unfold lentOf
  rw [List.mem_filterMap]
  constructor
  · rintro ⟨a, h, e⟩
    have e' : a = some i := e
    rw [← e']
    exact h
  · intro h
    exact ⟨some i, h, rfl⟩
theorem emptied_get : ∀ (sl : List (Option Nat)) (ρ : Env) {i : Nat}, i ∉ lentOf sl → (emptied sl ρ)[i]? = ρ[i]?
  | [], _, _, _ => rfl
  | none :: sl, ρ, i, h => emptied_get sl ρ (i := i) h
  | some k :: sl, ρ, i, h => by
    have h' : i ∉ k :: lentOf sl := h
    have h1 : k ≠ i := fun e => h' (e ▸ List.mem_cons_self)
    show ((emptied sl ρ).set k .top)[i]? = _
    rw [List.getElem?_set_ne h1, emptied_get sl ρ fun z => h' (List.mem_cons_of_mem _ z)]
theorem emptied_len : ∀ (sl : List (Option Nat)) (ρ : Env), (emptied sl ρ).length = ρ.length
  | [], _ => rfl
  | none :: sl, ρ => emptied_len sl ρ
  | some k :: sl, ρ => by
    show ((emptied sl ρ).set k .top).length = _
    rw [List.length_set, emptied_len sl ρ]
theorem fill_len : ∀ (sl : List (Option Nat)) (os : List O) (ρ : Env), (fill sl os ρ).length = os.length
  | [], os, _ => by unfold fill; rfl
  | none :: sl, [], _ => rfl
  | some _ :: sl, [], _ => rfl
  | none :: sl, o :: os, ρ => by show (o :: fill sl os ρ).length = _; rw [List.length_cons, fill_len sl os ρ]; rfl
  | some i :: sl, o :: os, ρ => by show (envAt ρ i :: fill sl os ρ).length = _; rw [List.length_cons, fill_len sl os ρ]; rfl
/-- lent trees come to the temps: pre, the temps passed already -/
theorem RelA.filled : ∀ (sl : List (Option Nat)) {pre : List (Option V)} {up : List O} {vs : List V} {os : List O} {σ : L2.St} {ρ : Env} {AA : List Addr}, RelA K S AA H (pre ++ (vs.map some ++ σ)) (up ++ (os ++ ρ)) → pre.length = up.length → vs.length = os.length → Slots sl σ vs → (lentOf sl).Nodup →
    ∃ AA', RelA K S AA' H (pre ++ (vs.map some ++ σ)) (up ++ (fill sl os ρ ++ emptied sl ρ)) ∧ ∀ a ∈ AA', a ∈ AA
  | [], pre, up, vs, os, σ, ρ, AA, r, hp, hl, hs, hn => by
    have e : vs = [] := List.length_eq_zero_iff.mp hs.1.symm
    subst e
    have e : os = [] := List.length_eq_zero_iff.mp hl.symm
    subst e
    exact ⟨AA, r, fun _ h => h⟩
  | s :: sl, pre, up, vs, os, σ, ρ, AA, r, hp, hl, hs, hn => by
    obtain ⟨v, vs', rfl⟩ : ∃ v vs', vs = v :: vs' := by
      cases vs with
      | nil => have := hs.1; cases this
      | cons v vs' => exact ⟨v, vs', rfl⟩
    obtain ⟨o, os', rfl⟩ : ∃ o os', os = o :: os' := by
      cases os with
      | nil => cases hl
      | cons o os' => exact ⟨o, os', rfl⟩
    have hs' : Slots sl σ vs' := ⟨by simpa using hs.1, fun j i e => by
      obtain ⟨u, e1, e2⟩ := hs.2 (j + 1) i (by simpa using e)
      exact ⟨u, by simpa using e1, e2⟩⟩
    have hl' : vs'.length = os'.length := by simpa using hl
    have hn' : (lentOf sl).Nodup := by
      cases s with
      | none => exact hn
      | some i => exact (List.nodup_cons.mp (show (i :: lentOf sl).Nodup from hn)).2
    have r0 : RelA K S AA H ((pre ++ [some v]) ++ (vs'.map some ++ σ)) ((up ++ [o]) ++ (os' ++ ρ)) := by
      simpa [List.append_assoc] using r
    obtain ⟨A1, r1, s1⟩ := RelA.filled sl r0 (by simp [hp]) hl' hs' hn'
    cases s with
    | none =>
      refine ⟨A1, ?_, s1⟩
      simpa [List.append_assoc, fill, emptied] using r1
    | some i =>
      have ni : i ∉ lentOf sl := (List.nodup_cons.mp (show (i :: lentOf sl).Nodup from hn)).1
      obtain ⟨u, e1, e2⟩ := hs.2 0 i rfl
      have eu : v = u := by simpa using e1
      subst eu
      have hiσ : i < ρ.length := by
        have l0 := r.len
        simp only [List.length_append, List.length_map, List.length_cons] at l0
        have := (List.getElem?_eq_some_iff.mp e2).1
        have h1 : vs'.length = os'.length := hl'
        omega
      have eo : ρ[i]? = some (envAt ρ i) := by
        unfold envAt
        rw [List.getElem?_eq_getElem hiσ]
        rfl
      -- the places: j = pre.length, i far behind
      have ho : ((up ++ [o]) ++ (fill sl os' ρ ++ emptied sl ρ))[up.length + 1 + os'.length + i]? = some (envAt ρ i) := by
        rw [← List.append_assoc, List.getElem?_append_right (by simp only [List.length_append, List.length_cons, List.length_nil, fill_len]; omega)]
        rw [show up.length + 1 + os'.length + i - (up ++ [o] ++ fill sl os' ρ).length = i by simp only [List.length_append, List.length_cons, List.length_nil, fill_len]; omega]
        rw [emptied_get sl ρ ni, eo]
      have hx : ((pre ++ [some v]) ++ (vs'.map some ++ σ))[pre.length]? = ((pre ++ [some v]) ++ (vs'.map some ++ σ))[up.length + 1 + os'.length + i]? := by
        rw [List.getElem?_append_left (by simp), List.getElem?_append_right (by simp), Nat.sub_self]
        rw [← List.append_assoc, List.getElem?_append_right (by simp only [List.length_append, List.length_cons, List.length_nil, List.length_map]; omega)]
        rw [show up.length + 1 + os'.length + i - (pre ++ [some v] ++ vs'.map some).length = i by simp only [List.length_append, List.length_cons, List.length_nil, List.length_map]; omega, e2]
        rfl
      obtain ⟨A2, r2, s2⟩ := r1.trans_ (j := pre.length) ho hx
      refine ⟨A2, ?_, fun a ha => s1 a (s2 a ha)⟩
      have es : (((up ++ [o]) ++ (fill sl os' ρ ++ emptied sl ρ)).set (up.length + 1 + os'.length + i) .top).set pre.length (envAt ρ i) = up ++ (fill (some i :: sl) (o :: os') ρ ++ emptied (some i :: sl) ρ) := by
        rw [List.append_assoc up [o], List.set_append_right _ _ (by omega), List.set_append_right _ _ (by omega)]
        rw [show pre.length - up.length = 0 by omega, show up.length + 1 + os'.length + i - up.length = (os'.length + i) + 1 by omega]
        show up ++ (envAt ρ i :: ((fill sl os' ρ ++ emptied sl ρ).set (os'.length + i) .top)) = _
        rw [List.set_append_right _ _ (by rw [fill_len]; omega), fill_len, show os'.length + i - os'.length = i by omega]
        rfl
      rw [es] at r2
      simpa [List.append_assoc] using r2
/-- a tree at a place is given away -/
theorem RelA.freezeAt {xs : List (Option V)} {os : List O} (r : RelA K S AA H xs os) {j : Nat} {o : O} {d : D} (ho : os[j]? = some o) (hf : fz o = some d) : ∃ AA', RelA K S AA' H xs (os.set j (.sh d)) ∧ ∀ a ∈ AA', a ∈ AA := by
  obtain ⟨x, A1, h1, r1, s1⟩ := r.moveOut ho
  obtain ⟨v, ev⟩ : ∃ v, x = some v := by
    obtain ⟨y, A, e1, e2⟩ := r1.get (i := 0) rfl
    cases e1
    cases e2 with
    | top => cases hf
    | pin => exact ⟨_, rfl⟩
    | al => exact ⟨_, rfl⟩
    | nm _ _ => exact ⟨_, rfl⟩
    | sh _ => exact ⟨_, rfl⟩
    | ow _ _ _ => exact ⟨_, rfl⟩
    | dp _ _ _ _ => exact ⟨_, rfl⟩
    | bor _ => exact ⟨_, rfl⟩
  subst ev
  have hfl : fzL [o] = some [d] := by
    show (match fz o with | some d => (match fzL [] with | some ds => some (d :: ds) | none => none) | none => none) = _
    rw [hf]
    rfl
  obtain ⟨A2, r2, hs, s2⟩ := RelA.froze (vs := [v]) (us := [o]) r1 rfl hfl
  cases hs with
  | cons h3 h4 =>
    obtain ⟨A3, r3, s3⟩ := (r2.push (.sh h3)).store j
    rw [set_self h1, List.set_set] at r3
    exact ⟨A3, r3, fun a ha => s1 a (s2 a (s3 a ha))⟩
/-- the arguments as the callee gets them -/
theorem RelA.argd : ∀ (sl : List (Option Nat)) {pre : List (Option V)} {up : List O} {xs : List (Option V)} {os us : List O} {ρ : Env} {AA : List Addr}, RelA K S AA H (pre ++ xs) (up ++ (os ++ ρ)) → pre.length = up.length → argOk sl os = some us →
    ∃ AA', RelA K S AA' H (pre ++ xs) (up ++ (us ++ ρ)) ∧ ∀ a ∈ AA', a ∈ AA
  | [], pre, up, xs, [], us, ρ, AA, r, _, e => by
    cases e
    exact ⟨AA, r, fun _ h => h⟩
  | [], _, _, _, _ :: _, _, _, _, _, _, e => by cases e
  | some _ :: _, _, _, _, [], _, _, _, _, _, e => by cases e
  | none :: _, _, _, _, [], _, _, _, _, _, e => by cases e
  | some i :: sl, pre, up, xs, o :: os, us, ρ, AA, r, hp, e => by
    have e0 : (match isBor o, argOk sl os with | false, some us => some (o :: us) | _, _ => none) = some us := e
    cases e1 : isBor o with
    | true => rw [e1] at e0; cases e0
    | false =>
      cases e2 : argOk sl os with
      | none => rw [e1, e2] at e0; cases e0
      | some us' =>
        rw [e1, e2] at e0
        cases e0
        obtain ⟨x, xs', ex⟩ : ∃ x xs', xs = x :: xs' := by
          have l := r.len
          simp only [List.length_append, List.length_cons] at l
          cases xs with
          | nil => simp only [List.length_nil] at l; omega
          | cons x xs' => exact ⟨x, xs', rfl⟩
        subst ex
        have r0 : RelA K S AA H ((pre ++ [x]) ++ xs') ((up ++ [o]) ++ (os ++ ρ)) := by simpa [List.append_assoc] using r
        obtain ⟨A1, r1, s1⟩ := RelA.argd sl r0 (by simp [hp]) e2
        exact ⟨A1, by simpa [List.append_assoc] using r1, s1⟩
  | none :: sl, pre, up, xs, o :: os, us, ρ, AA, r, hp, e => by
    have e0 : (match fz o, argOk sl os with | some d, some us => some (.sh d :: us) | _, _ => none) = some us := e
    cases e1 : fz o with
    | none => rw [e1] at e0; cases e0
    | some d =>
      cases e2 : argOk sl os with
      | none => rw [e1, e2] at e0; cases e0
      | some us' =>
        rw [e1, e2] at e0
        cases e0
        obtain ⟨x, xs', ex⟩ : ∃ x xs', xs = x :: xs' := by
          have l := r.len
          simp only [List.length_append, List.length_cons] at l
          cases xs with
          | nil => simp only [List.length_nil] at l; omega
          | cons x xs' => exact ⟨x, xs', rfl⟩
        subst ex
        obtain ⟨A0, r00, s0⟩ := r.freezeAt (j := up.length) (o := o) (d := d) (by rw [List.getElem?_append_right (Nat.le_refl _), Nat.sub_self]; rfl) e1
        rw [List.set_append_right _ _ (Nat.le_refl _), Nat.sub_self] at r00
        have r0 : RelA K S A0 H ((pre ++ [x]) ++ xs') ((up ++ [.sh d]) ++ (os ++ ρ)) := by simpa [List.append_assoc] using r00
        obtain ⟨A1, r1, s1⟩ := RelA.argd sl r0 (by simp [hp]) e2
        exact ⟨A1, by simpa [List.append_assoc] using r1, fun a ha => s0 a (s1 a ha)⟩
/-- the rest stands by while the front is run -/
theorem RelA.joinR {T A T' : List Addr} {H' : Hp} {xs ts' : List (Option V)} {os os' us' : List O} (h2 : RpOs K H (fun a => S a ∨ a ∈ T ++ A) xs os A) (nA : A.Nodup) (nS : ∀ a ∈ A, ¬ S a) (dis : ∀ a ∈ A, a ∉ T) (x : Ext T H T' H')
    (r : RelA K (fun a => S a ∨ a ∈ A) T' H' ts' us') (hu : os' = os.map kill ∨ (os' = os ∧ Same H H')) : RelA K S (T' ++ A) H' (ts' ++ xs) (us' ++ os') := by
  have k : Keep H H' (fun a => S a ∨ a ∈ T ++ A) (fun a => S a ∨ a ∈ T' ++ A) := by
    intro a u nb rd
    have t : ∃ u, H a = some u := ⟨u, rd⟩
    have n1 : a ∉ T := fun z => nb (.inr (List.mem_append_left _ z))
    refine ⟨fun z => ?_, u, by rw [x.at_ t n1, rd], .inl rfl⟩
    rcases z with z | z
    · exact nb (.inl z)
    · rcases List.mem_append.mp z with z | z
      · rcases x.new a z with e | e
        · obtain ⟨u', e'⟩ := t
          rw [e] at e'; cases e'
        · exact n1 e
      · exact nb (.inr (List.mem_append_right _ z))
  have hA : ∀ a ∈ A, H' a = H a := fun a ha => x.at_ (h2.tracked os a ha) (dis a ha)
  have p : RpOs K H' (fun a => S a ∨ a ∈ T' ++ A) xs os' A := by
    rcases hu with e | ⟨e, hp⟩
    · rw [e]
      exact h2.killed k os hA
    · rw [e]
      exact h2.pure k hp os
  refine ⟨RpOs.app (r.rp.congr fun a => ?_) p, List.nodup_append.mpr ⟨r.nd, nA, fun a ha b hb e => ?_⟩, fun a ha => ?_, fun a ha => r.st a (.inl ha)⟩
  · simp only [List.mem_append]
    constructor
    · rintro ((z | z) | z)
      · exact .inl z
      · exact .inr (.inr z)
      · exact .inr (.inl z)
    · rintro (z | z | z)
      · exact .inl (.inl z)
      · exact .inr z
      · exact .inl (.inr z)
  · subst e
    exact r.ns a ha (.inr hb)
  · rcases List.mem_append.mp ha with ha | ha
    · exact fun z => r.ns a ha (.inl z)
    · exact nS a ha
theorem Ext.back {T A T' : List Addr} {H H' : Hp} (x : Ext T H T' H') : Ext (T ++ A) H (T' ++ A) H' := by
  refine ⟨fun a h e => ?_, fun a ha => ?_⟩
  · obtain ⟨h', e', k⟩ := x.keep a h e
    exact ⟨h', e', fun n => k fun z => n (List.mem_append_left _ z)⟩
  · rcases List.mem_append.mp ha with ha | ha
    · rcases x.new a ha with e | e
      · exact .inl e
      · exact .inr (List.mem_append_left _ e)
    · exact .inr (List.mem_append_right _ ha)
/-- a root in the middle goes -/
theorem RelA.dropMid {pre xs : List (Option V)} {x : Option V} {up os : List O} {o : O} (r : RelA K S AA H (pre ++ x :: xs) (up ++ o :: os)) (hp : pre.length = up.length) : ∃ AA', RelA K S AA' H (pre ++ xs) (up ++ os) ∧ ∀ a ∈ AA', a ∈ AA := by
  obtain ⟨A1, A2, e, h1, h2⟩ := r.rp.split hp
  generalize hB : (fun a => S a ∨ a ∈ AA) = B at h1 h2
  cases h2 with
  | @cons _ _ _ _ A3 A4 h3 h4 =>
    have sub : ∀ a ∈ A1 ++ A4, a ∈ AA := fun a ha => by
      rw [e]
      simp only [List.mem_append] at ha ⊢
      rcases ha with ha | ha
      · exact .inl ha
      · exact .inr (.inr ha)
    refine ⟨A1 ++ A4, ⟨?_, ?_, fun a ha => r.ns a (sub a ha), r.st⟩, sub⟩
    · exact RpOs.pure (Keep.here fun a z => by rw [← hB]; exact z.imp_right (sub a)) (Same.refl H) _ (h1.app h4)
    · have := r.nd
      rw [e] at this
      exact this.sublist (List.Sublist.append (List.Sublist.refl _) (List.sublist_append_right _ _))
/-- lent trees go back -/
theorem RelA.backs {σ : L2.St} : ∀ (is : List Nat) {pre : List (Option V)} {up : List O} {ys : List (Option V)} {outs : List O} {ρ : Env} {AA : List Addr}, RelA K S AA H (pre ++ (ys ++ σ)) (up ++ (outs ++ ρ)) → pre.length = up.length → ys.length = is.length → outs.length = is.length →
    (∀ (k i : Nat), is[k]? = some i → ∃ y, ys[k]? = some y ∧ σ[i]? = some y) → ∃ AA', RelA K S AA' H (pre ++ σ) (up ++ backTo is outs ρ) ∧ ∀ a ∈ AA', a ∈ AA
  | [], pre, up, ys, outs, ρ, AA, r, hp, hy, ho, _ => by
    have e : ys = [] := List.length_eq_zero_iff.mp hy
    subst e
    have e : outs = [] := List.length_eq_zero_iff.mp ho
    subst e
    exact ⟨AA, r, fun _ h => h⟩
  | i :: is, pre, up, ys, outs, ρ, AA, r, hp, hy, ho, hs => by
    obtain ⟨y, ys', rfl⟩ : ∃ y ys', ys = y :: ys' := by
      cases ys with
      | nil => cases hy
      | cons y ys' => exact ⟨y, ys', rfl⟩
    obtain ⟨o, outs', rfl⟩ : ∃ o outs', outs = o :: outs' := by
      cases outs with
      | nil => cases ho
      | cons o outs' => exact ⟨o, outs', rfl⟩
    have r0 : RelA K S AA H ((pre ++ [y]) ++ (ys' ++ σ)) ((up ++ [o]) ++ (outs' ++ ρ)) := by simpa [List.append_assoc] using r
    obtain ⟨A1, r1, s1⟩ := RelA.backs is r0 (by simp [hp]) (by simpa using hy) (by simpa using ho) fun k j e => by
      obtain ⟨y', e1, e2⟩ := hs (k + 1) j (by simpa using e)
      exact ⟨y', by simpa using e1, e2⟩
    obtain ⟨y0, e1, e2⟩ := hs 0 i rfl
    have ey : y = y0 := by simpa using e1
    subst ey
    obtain ⟨A2, r2, s2⟩ := r1.trans_ (i := up.length) (j := up.length + 1 + i) (o := o) (by rw [List.append_assoc, List.getElem?_append_right (Nat.le_refl _), Nat.sub_self]; rfl) (by
      rw [List.getElem?_append_right (by simp [hp]), List.append_assoc, List.getElem?_append_right (by omega), List.length_append, List.length_cons, List.length_nil, hp]
      rw [show up.length + 1 + i - (up.length + (0 + 1)) = i by omega, Nat.sub_self, e2]
      rfl)
    have es : (((up ++ [o]) ++ backTo is outs' ρ).set up.length .top).set (up.length + 1 + i) o = up ++ .top :: (backTo (i :: is) (o :: outs') ρ) := by
      rw [List.append_assoc, List.set_append_right _ _ (Nat.le_refl _), Nat.sub_self, List.set_append_right _ _ (by omega), show up.length + 1 + i - up.length = i + 1 by omega]
      rfl
    rw [es, List.append_assoc] at r2
    obtain ⟨A3, r3, s3⟩ := RelA.dropMid (x := y) (o := .top) r2 hp
    exact ⟨A3, r3, fun a ha => s1 a (s2 a (s3 a ha))⟩
end
end VL

namespace VL
open PySem PySem.Spec L2

/-- the places of the lent arguments -/
def posFrom : Nat → List (Option Nat) → List Nat
  | _, [] => []
  | n, some _ :: sl => n :: posFrom (n + 1) sl
  | n, none :: sl => posFrom (n + 1) sl
def posOf (sl : List (Option Nat)) : List Nat := posFrom 0 sl
section
variable {K : PySem.W.Frag} {S : Addr → Prop} {AA : List Addr} {H : Hp}
theorem posFrom_get : ∀ (sl : List (Option Nat)) (n k i : Nat), (lentOf sl)[k]? = some i → ∃ j, (posFrom n sl)[k]? = some (n + j) ∧ sl[j]? = some (some i)
  | [], _, _, _, e => by cases e
  | none :: sl, n, k, i, e => by
    obtain ⟨j, h1, h2⟩ := posFrom_get sl (n + 1) k i e
    exact ⟨j + 1, by show (posFrom (n + 1) sl)[k]? = _; rw [h1]; congr 1; omega, by simpa using h2⟩
  | some m :: sl, n, 0, i, e => by
    have e' : m = i := by
      have q : (m :: lentOf sl)[0]? = some i := e
      simpa using q
    exact ⟨0, rfl, by rw [e']; rfl⟩
  | some m :: sl, n, k + 1, i, e => by
    have q : (m :: lentOf sl)[k + 1]? = some i := e
    obtain ⟨j, h1, h2⟩ := posFrom_get sl (n + 1) k i (by simpa using q)
    exact ⟨j + 1, by show (n :: posFrom (n + 1) sl)[k + 1]? = _; rw [List.getElem?_cons_succ, h1]; congr 1; omega, by simpa using h2⟩
theorem posFrom_len : ∀ (sl : List (Option Nat)) (n : Nat), (posFrom n sl).length = (lentOf sl).length
  | [], _ => rfl
  | none :: sl, n => posFrom_len sl (n + 1)
  | some m :: sl, n => by
    show (n :: posFrom (n + 1) sl).length = (m :: lentOf sl).length
    rw [List.length_cons, List.length_cons, posFrom_len sl (n + 1)]
theorem argOk_len : ∀ (sl : List (Option Nat)) (os us : List O), argOk sl os = some us → us.length = os.length
  | [], [], _, e => by cases e; rfl
  | [], _ :: _, _, e => by cases e
  | some _ :: _, [], _, e => by cases e
  | none :: _, [], _, e => by cases e
  | some i :: sl, o :: os, us, e => by
    have e0 : (match isBor o, argOk sl os with | false, some us => some (o :: us) | _, _ => none) = some us := e
    cases e1 : isBor o with
    | true => rw [e1] at e0; cases e0
    | false =>
      cases e2 : argOk sl os with
      | none => rw [e1, e2] at e0; cases e0
      | some us' =>
        rw [e1, e2] at e0
        cases e0
        rw [List.length_cons, List.length_cons, argOk_len sl os us' e2]
  | none :: sl, o :: os, us, e => by
    have e0 : (match fz o, argOk sl os with | some d, some us => some (.sh d :: us) | _, _ => none) = some us := e
    cases e1 : fz o with
    | none => rw [e1] at e0; cases e0
    | some d =>
      cases e2 : argOk sl os with
      | none => rw [e1, e2] at e0; cases e0
      | some us' =>
        rw [e1, e2] at e0
        cases e0
        rw [List.length_cons, List.length_cons, argOk_len sl os us' e2]
/-- no object is lent: the arguments own nothing -/
theorem argOk_none {B : Addr → Prop} : ∀ (sl : List (Option Nat)) (os us : List O) {xs : List (Option V)} {T : List Addr}, lentOf sl = [] → argOk sl os = some us → RpOs K H B xs us T → T = []
  | [], [], _, _, _, _, e, r => by cases e; cases r; rfl
  | [], _ :: _, _, _, _, _, e, _ => by cases e
  | some _ :: _, _, _, _, _, hl, _, _ => by cases hl
  | none :: _, [], _, _, _, _, e, _ => by cases e
  | none :: sl, o :: os, us, xs, T, hl, e, r => by
    have e0 : (match fz o, argOk sl os with | some d, some us => some (.sh d :: us) | _, _ => none) = some us := e
    cases e1 : fz o with
    | none => rw [e1] at e0; cases e0
    | some d =>
      cases e2 : argOk sl os with
      | none => rw [e1, e2] at e0; cases e0
      | some us' =>
        rw [e1, e2] at e0
        cases e0
        cases r with
        | cons r1 r2 =>
          cases r1
          rw [argOk_none sl os us' hl e2 r2]
          rfl
theorem emptied_none : ∀ (sl : List (Option Nat)) (ρ : Env), lentOf sl = [] → emptied sl ρ = ρ
  | [], _, _ => rfl
  | some _ :: _, _, h => by cases h
  | none :: sl, ρ, h => emptied_none sl ρ h
/-- scalars behind -/
theorem RelA.scs : ∀ (dv : List Sc) {xs : List (Option V)} {os : List O}, RelA K S AA H xs os → RelA K S AA H (xs ++ (dv.map Sc.v).map some) (os ++ dv.map fun s => .sh (.sc s)) := by
  intro dv xs os r
  have q : ∀ dv : List Sc, RpOs K H (fun a => S a ∨ a ∈ AA) ((dv.map Sc.v).map some) (dv.map fun s => O.sh (.sc s)) [] := by
    intro dv
    induction dv with
    | nil => exact .nil
    | cons s dv ih => exact RpOs.cons (A := []) (.sh (.sc s)) ih
  refine ⟨?_, r.nd, r.ns, r.st⟩
  have := r.rp.app (q dv)
  rwa [List.append_nil] at this
end
/-- the call of a def that keeps its promise -/
theorem snd_call {K : PySem.W.Frag} {W : WX} {p : Bool} {sl : List (Option Nat)} {dv : List Sc} {sp : VSp} {io : List Nat} {n : Nat} {t : TA} {ra : VA} (ha : SndX K W p sl t ra) (hs : slOk sl = true) (hio : io = posOf sl) (hn : n = sl.length + dv.length) :
    SndE K W (p && (lentOf sl).isEmpty) (tCallSD (toSp K n io sp) (dv.map Sc.v) (WE W) t) (vCall sl (dv.map .sc) sp ra) := by
  intro S AA H σ ρ φ ε Q r l hQ h
  have hnd : (lentOf sl).Nodup := of_decide_eq_true hs
  refine ha S AA H σ ρ _ ε _ r l (fun vs H1 os ρ1 A1 h1 hl hsl r1 x1 p1 => ?_) h
  obtain ⟨A2, r2, s2⟩ := RelA.filled (pre := []) (up := []) sl r1 rfl hl hsl hnd
  have h1' : match argOk sl (fill sl os ρ1) with
      | some us => sp (us ++ (dv.map .sc).map .sh) (fun o outs => φ o (backTo (lentOf sl) outs (killAll sl (emptied sl ρ1)))) (fun e outs => ε e (backTo (lentOf sl) outs (killAll sl (emptied sl ρ1))))
      | none => False := h1
  cases eA : argOk sl (fill sl os ρ1) with
  | none => rw [eA] at h1'; exact h1'.elim
  | some us =>
    rw [eA] at h1'
    obtain ⟨A3, r3, s3⟩ := RelA.argd (pre := []) (up := []) sl r2 rfl eA
    have r3' : RelA K S A3 H1 (vs.map some ++ σ) (us ++ emptied sl ρ1) := r3
    have hlu : vs.length = us.length := by
      rw [argOk_len sl _ us eA, fill_len, hl]
    obtain ⟨T, A, eT, f1, f2⟩ := r3'.rp.split (by rw [List.length_map, hlu])
    subst eT
    obtain ⟨n1, n2, n3⟩ := List.nodup_append.mp r3'.nd
    have hT : ∀ a ∈ T, ¬ S a := fun a ha => r3'.ns a (List.mem_append_left _ ha)
    have hA : ∀ a ∈ A, ¬ S a := fun a ha => r3'.ns a (List.mem_append_right _ ha)
    have sub3 : ∀ a ∈ T ++ A, a ∈ A1 := fun a ha => s2 a (s3 a ha)
    have relC : RelA K (fun a => S a ∨ a ∈ A) T H1 (vs.map some) us := by
      refine ⟨f1.congr fun a => ?_, n1, fun a ha z => ?_, fun a ha => ?_⟩
      · simp only [List.mem_append]
        constructor
        · rintro (z | z | z)
          · exact .inl (.inl z)
          · exact .inr z
          · exact .inl (.inr z)
        · rintro ((z | z) | z)
          · exact .inl z
          · exact .inr (.inr z)
          · exact .inr (.inl z)
      · rcases z with z | z
        · exact hT a ha z
        · exact n3 a ha a z rfl
      · rcases ha with ha | ha
        · exact r3'.st a ha
        · exact f2.tracked _ a ha
    have relC2 := relC.scs dv
    rw [← List.map_append] at relC2
    have eD : (dv.map fun s => O.sh (.sc s)) = (dv.map D.sc).map .sh := by rw [List.map_map]; rfl
    rw [eD] at relC2
    -- how the frame stands behind the call
    have frame : ∀ {T' : List Addr} {H' : Hp} {ts' : List (Option V)} {us' : List O}, Ext T H1 T' H' → RelA K (fun a => S a ∨ a ∈ A) T' H' ts' us' → RelA K S (T' ++ A) H' (ts' ++ σ) (us' ++ killAll sl (emptied sl ρ1)) ∧ Ext AA H (T' ++ A) H' ∧ (lentOf sl = [] → Same H1 H') := by
      intro T' H' ts' us' x' r'
      have hx : Ext AA H (T' ++ A) H' := (x1.sub sub3).trans x'.back
      cases e : lentOf sl with
      | nil =>
        have eT : T = [] := argOk_none sl _ us e eA f1
        have sm : Same H1 H' := fun a u h => by
          obtain ⟨u', h', k⟩ := x'.keep a u h
          rw [h', k (by rw [eT]; intro z; cases z)]
        refine ⟨RelA.joinR f2 n2 hA (fun a ha hb => n3 a hb a ha rfl) x' r' (.inr ⟨?_, sm⟩), hx, fun _ => sm⟩
        unfold killAll
        rw [e]
      | cons i is =>
        refine ⟨RelA.joinR f2 n2 hA (fun a ha hb => n3 a hb a ha rfl) x' r' (.inl ?_), hx, fun z => by cases z⟩
        unfold killAll
        rw [e]
    have places : ∀ (k i : Nat), (lentOf sl)[k]? = some i → ∃ y, (io.map fun i => (vs ++ dv.map Sc.v)[i]?)[k]? = some y ∧ σ[i]? = some y := fun k i e => by
      obtain ⟨j, h1, h2⟩ := posFrom_get sl 0 k i e
      obtain ⟨v, e1, e2⟩ := hsl.2 j i h2
      refine ⟨some v, ?_, e2⟩
      rw [hio, List.getElem?_map, show (posOf sl)[k]? = some (0 + j) from h1, Nat.zero_add]
      show some ((vs ++ dv.map Sc.v)[j]?) = _
      rw [List.getElem?_append_left (List.getElem?_eq_some_iff.mp e1).1, e1]
    have lio : io.length = (lentOf sl).length := by
      rw [hio]
      exact posFrom_len sl 0
    refine ⟨fun a => S a ∨ a ∈ A, T, us ++ (dv.map D.sc).map .sh, _, _, ?_, relC2, h1', fun v H' o outs T' hφ r' x' => ?_, fun cls d H' exc outs T' hε r' x' xr => ?_⟩
    · rw [List.length_append, List.length_map, hn, hsl.1]
    · obtain ⟨r4, x4, sm⟩ := frame x' r'
      have lo : outs.length = (lentOf sl).length := by
        have := r'.len
        simp only [List.length_cons, List.length_map] at this
        omega
      obtain ⟨A5, r5, s5⟩ := RelA.backs (lentOf sl) (pre := [some v]) (up := [o]) r4 rfl (by rw [List.length_map, lio]) lo places
      refine hQ v H' o _ A5 hφ r5 (x4.sub s5) fun e => ?_
      obtain ⟨ea, eb⟩ := and2 e
      have el : lentOf sl = [] := List.isEmpty_iff.mp eb
      have eo : outs = [] := List.length_eq_zero_iff.mp (by rw [lo, el]; rfl)
      refine ⟨?_, Same.trans (p1 ea).2 (sm el)⟩
      rw [el, eo]
      show killAll sl (emptied sl ρ1) = ρ
      unfold killAll
      rw [el, emptied_none sl ρ1 el]
      exact (p1 ea).1
    · obtain ⟨r4, x4, sm⟩ := frame x' r'
      have lo : outs.length = (lentOf sl).length := by
        have := r'.len
        simp only [List.length_map] at this
        omega
      obtain ⟨A5, r5, s5⟩ := RelA.backs (lentOf sl) (pre := []) (up := []) r4 rfl (by rw [List.length_map, lio]) lo places
      refine l cls d H' _ exc A5 r5 (x4.sub s5) ?_ hε
      refine ⟨xr.1, ?_⟩
      have q := xr.2
      cases e : exc.f with
      | none =>
        rw [e] at q
        exact q
      | some pf =>
        obtain ⟨fn, y⟩ := pf
        rw [e] at q
        obtain ⟨a, v, q1, nb, q2, q3⟩ := q
        refine ⟨a, v, q1, fun z => nb ?_, q2, q3.keep (Keep.here fun b z => ?_)⟩
        · rcases z with z | z
          · exact .inl (.inl z)
          · rcases List.mem_append.mp (s5 _ z) with z | z
            · exact .inr z
            · exact .inl (.inr z)
        · rcases z with z | z
          · exact .inl (.inl z)
          · rcases List.mem_append.mp (s5 _ z) with z | z
            · exact .inr z
            · exact .inl (.inr z)

/-- the object at place i is of the class C; m is none of its attributes -/
def objIs (o : O) (C : Addr) (m : Str) : Prop := match o with
  | .ow (.obj C' fs) cs => C' = C ∧ fs.contains m = false
  | .dp (.obj C' fs) cs => C' = C ∧ fs.contains m = false
  | _ => False
def vMeth (i : Nat) (C : Addr) (m : Str) (r : VE) : VE := fun ρ φ ε => objIs (envAt ρ i) C m ∧ r ρ φ ε
theorem lookup_zip_none : ∀ {fs : List Str} {vs : List V} {m : Str}, fs.contains m = false → (fs.zip vs).lookup m = none
  | [], _, _, _ => rfl
  | _ :: _, [], _, _ => rfl
  | f :: fs, v :: vs, m, h => by
    rw [List.contains_cons, Bool.or_eq_false_iff] at h
    show (match m == f with | true => some v | false => (fs.zip vs).lookup m) = none
    rw [h.1]
    exact lookup_zip_none h.2
theorem snd_meth {K : PySem.W.Frag} {W : WX} {p : Bool} {i : Nat} {C : Addr} {m : Str} {sl : List (Option Nat)} {dv : List Sc} {sp : VSp} {io : List Nat} {n : Nat} {t : TA} {ra : VA} (ha : SndX K W p sl t ra) (hs : slOk (some i :: sl) = true) (hio : io = posOf (some i :: sl)) (hn : n = (some i :: sl).length + dv.length) :
    SndE K W (p && (lentOf (some i :: sl)).isEmpty) (tMethG C m (toSp K n io sp) (dv.map Sc.v) W (tVar i) t) (vMeth i C m (vCall (some i :: sl) (dv.map .sc) sp (vLent i ra))) := by
  intro S AA H σ ρ φ ε Q r l hQ h
  obtain ⟨ho, h⟩ := h
  have q := snd_call (slx_lent (i := i) ha) hs hio hn S AA H σ ρ φ ε Q r l hQ h
  obtain ⟨v, e, q⟩ := q
  refine ⟨v, e, ?_⟩
  have obj : ∃ a dx fs, v = .ref a ∧ H a = some (.ins C dx fs) ∧ fs.lookup m = none := by
    unfold objIs at ho
    cases eo : envAt ρ i with
    | ow lb cs =>
      rw [eo] at ho
      obtain ⟨x, A, e1, e2⟩ := r.get (envAt_some eo (by intro z; cases z))
      rw [e] at e1
      cases e1
      cases lb with
      | obj C' fs =>
        obtain ⟨rfl, hm⟩ := ho
        cases e2 with
        | ow h1 h2 h3 =>
          obtain ⟨_, dx, rfl⟩ := h2
          exact ⟨_, dx, _, rfl, h1, lookup_zip_none hm⟩
      | _ => exact ho.elim
    | dp lb cs =>
      rw [eo] at ho
      obtain ⟨x, A, e1, e2⟩ := r.get (envAt_some eo (by intro z; cases z))
      rw [e] at e1
      cases e1
      cases lb with
      | obj C' fs =>
        obtain ⟨rfl, hm⟩ := ho
        cases e2 with
        | dp h1 h2 h3 =>
          obtain ⟨_, dx, rfl⟩ := h2
          exact ⟨_, dx, _, rfl, h1, lookup_zip_none hm⟩
      | _ => exact ho.elim
    | _ => rw [eo] at ho; exact ho.elim
  obtain ⟨a, dx, fs, ev, h1, h2⟩ := obj
  exact ⟨a, dx, fs, ev, h1, h2, q⟩

section
variable {X : Cx} {W : WX} {p : Bool} {sl : List (Option Nat)} {dv : List Sc} {ds : List Value} {sp : VSp} {io : List Nat} {k : Nat} {f C : Addr} {fd : FuncData} {ps : List Str} {x m : Str} {pp pos apos : Pos} {e o : Expr} {es : List Expr} {ra : VA} {i : Nat}
/-- f(e, ..) -/
theorem ev_call (F : FnV X.prog X.w X.K X.mg X.base k f fd ps io sp) (hr : Room k X.A) (g : X.A.guards = some []) (hm : X.mg x = some (.ref f)) (hk : PySem.W.keepIn X.K (.ref f) = true) (hb : Binds X.K fd ps ds) (hd : Vals (dv.map Sc.v) ds) (tk : Takes X W)
    (ha : Xv X W p sl (e :: es) ra) (hg : Gl X x := by rfl) (hs : slOk sl = true := by rfl) (hio : io = posOf sl := by rfl) (hn : ps.length = sl.length + dv.length := by rfl) (hdb : (x == ("__debug__" : Str)) = false := by decide)
    (he : starEach (e :: es) X.env = (false, eval e X.env) :: starEach es X.env := by rfl) (hpl : (PySem.backTo pos (starEach es X.env)).any (·.1) = false := by rfl) {q_ : Bool} (hq_ : (p && (lentOf sl).isEmpty) = q_ := by rfl) :
    Ev X W q_ (.Call (.Name x pp) (e :: es) [] pos) (vCall sl (dv.map .sc) sp ra) := by
  subst hq_
  obtain ⟨t, ht, st⟩ := ha.ex
  exact ⟨_, pe_callG F hr g hg hm hk hb hd tk ht hdb he hpl, snd_call st hs hio hn⟩
theorem ev_call0 (F : FnV X.prog X.w X.K X.mg X.base k f fd ps io sp) (hr : Room k X.A) (g : X.A.guards = some []) (hm : X.mg x = some (.ref f)) (hk : PySem.W.keepIn X.K (.ref f) = true) (hb : Binds X.K fd ps ds) (hd : Vals (dv.map Sc.v) ds) (tk : Takes X W)
    (hg : Gl X x := by rfl) (hio : io = posOf [] := by rfl) (hn : ps.length = dv.length := by rfl) (hdb : (x == ("__debug__" : Str)) = false := by decide) :
    Ev X W true (.Call (.Name x pp) [] [] pos) (vCall [] (dv.map .sc) sp vNil) :=
  ⟨_, pe_callG0 F hr g hg hm hk hb hd tk hdb, snd_call slx_nil rfl hio (by rw [hn]; exact (Nat.zero_add _).symm)⟩
/-- o.m(e, ..), o a name -/
theorem ev_meth {pl : Sem Bool} (ho : PE X o (tVar i)) (c : Cls X.K C) (hm : Meth X.K C m f) (F : FnV X.prog X.w X.K X.mg X.base k f fd ps io sp) (hr : Room k X.A) (g : X.A.guards = some []) (hb : Binds X.K fd ps ds) (hd : Vals (dv.map Sc.v) ds) (tk : Takes X W)
    (ha : Xv X W p sl (e :: es) ra) (hs : slOk (some i :: sl) = true := by rfl) (hio : io = posOf (some i :: sl) := by rfl) (hn : ps.length = (some i :: sl).length + dv.length := by rfl)
    (hst : starEach (e :: es) X.env = (false, eval e X.env) :: starEach es X.env := by rfl) (hpl : (PySem.backTo pos (starEach es X.env)).any (·.1) = false := by rfl)
    (ht : eval (.Call (.Attribute o m apos) (e :: es) [] pos) X.env = (do
        let ov ← eval o X.env
        standAt apos.atName
        let (fn, first) ← holding [ov] (getMethod ov m pl)
        callWith pos fn first (PySem.backTo pos (starEach (e :: es) X.env)) (backToKw pos (keywordEach [] X.env))) := by rfl) {q_ : Bool} (hq_ : (p && (lentOf (some i :: sl)).isEmpty) = q_ := by rfl) :
    Ev X W q_ (.Call (.Attribute o m apos) (e :: es) [] pos) (vMeth i C m (vCall (some i :: sl) (dv.map .sc) sp (vLent i ra))) := by
  subst hq_
  obtain ⟨t, hpt, st⟩ := ha.ex
  exact ⟨_, pe_methG (pl := pl) ho c hm F hr g hb hd tk hpt hst hpl ht, snd_meth st hs hio hn⟩
theorem ev_meth0 {pl : Sem Bool} (ho : PE X o (tVar i)) (c : Cls X.K C) (hm : Meth X.K C m f) (F : FnV X.prog X.w X.K X.mg X.base k f fd ps io sp) (hr : Room k X.A) (g : X.A.guards = some []) (hb : Binds X.K fd ps ds) (hd : Vals (dv.map Sc.v) ds) (tk : Takes X W)
    (hs : slOk [some i] = true := by rfl) (hio : io = posOf [some i] := by rfl) (hn : ps.length = [some i].length + dv.length := by rfl)
    (ht : eval (.Call (.Attribute o m apos) [] [] pos) X.env = (do
        let ov ← eval o X.env
        standAt apos.atName
        let (fn, first) ← holding [ov] (getMethod ov m pl)
        callWith pos fn first (PySem.backTo pos (starEach [] X.env)) (backToKw pos (keywordEach [] X.env))) := by rfl) :
    Ev X W false (.Call (.Attribute o m apos) [] [] pos) (vMeth i C m (vCall [some i] (dv.map .sc) sp (vLent i vNil))) :=
  ⟨_, pe_methG0 (pl := pl) ho c hm F hr g hb hd tk ht, snd_meth slx_nil hs hio hn⟩
end
end VL

namespace VL
open PySem PySem.Spec L2

/-! ### targets -/
abbrev VG := O → Env → (Env → Prop) → Prop
abbrev VGs := List O → Env → (Env → Prop) → Prop
def SndG (K : PySem.W.Frag) (io : List Nat) (t : TG) (g : VG) : Prop := ∀ (S : Addr → Prop) (AA : List Addr) (H : Hp) (σ : L2.St) (ρ : Env) (v : V) (o : O) (k : Env → Prop) (Q : L2.St → Hp → Prop), RelA K S AA H (some v :: σ) (o :: ρ) →
  (∀ σ' H' ρ' AA', k ρ' → StOk io σ σ' → RelA K S AA' H' σ' ρ' → Ext AA H AA' H' → Q σ' H') → g o ρ k → t v σ H Q
def SndGs (K : PySem.W.Frag) (io : List Nat) (t : TGs) (g : VGs) : Prop := ∀ (S : Addr → Prop) (AA : List Addr) (H : Hp) (σ : L2.St) (ρ : Env) (vs : List V) (os : List O) (k : Env → Prop) (Q : L2.St → Hp → Prop), RelA K S AA H (vs.map some ++ σ) (os ++ ρ) → vs.length = os.length → os.all (fun o => !isBor o) = true →
  (∀ σ' H' ρ' AA', k ρ' → StOk io σ σ' → RelA K S AA' H' σ' ρ' → Ext AA H AA' H' → Q σ' H') → g os ρ k → t vs σ H Q
structure Gv (X : Cx) (io : List Nat) (tg : Expr) (g : VG) : Prop where
  ex : ∃ t, PG X tg t ∧ SndG X.K io t g
structure Gsv (X : Cx) (io : List Nat) (tg : List Expr) (g : VGs) : Prop where
  ex : ∃ t, PGs X tg t ∧ SndGs X.K io t g
def vgName (i : Nat) : VG := fun o ρ k => k (ρ.set i o)
def vgNil : VGs := fun os ρ k => os = [] ∧ k ρ
def vgCons (g : VG) (gs : VGs) : VGs := fun os ρ k => match os with
  | o :: os => g o ρ fun ρ1 => gs os ρ1 k
  | [] => False
/-- the items of a tuple -/
def unTup : O → Option (List O)
  | .sh (.nd .tup ds) => some (ds.map .sh)
  | .ow .tup ds => some (ds.map .sh)
  | .dp .tup os => some os
  | _ => none
def vgTup (n : Nat) (gs : VGs) : VG := fun o ρ k => match unTup o with
  | some os => os.length = n ∧ gs os ρ k
  | none => False
section
variable {K : PySem.W.Frag} {S : Addr → Prop} {AA : List Addr} {H : Hp}
theorem RpSs.len {B : Addr → Prop} : ∀ {vs : List V} {ds : List D}, RpSs K H B vs ds → vs.length = ds.length
  | _, [], h => by cases h; rfl
  | _, d :: ds, h => by
    cases h with
    | cons h1 h2 => rw [List.length_cons, List.length_cons, h2.len]
theorem RpSs.get {B : Addr → Prop} : ∀ {vs : List V} {ds : List D} {i : Nat} {v : V} {d : D}, RpSs K H B vs ds → vs[i]? = some v → ds[i]? = some d → RpS K H B v d
  | _, [], _, _, _, _, _, e => by simp at e
  | _, d :: ds, 0, _, _, h, e1, e2 => by
    cases h with
    | cons h1 h2 =>
      cases e1
      cases e2
      exact h1
  | _, d :: ds, i + 1, _, _, h, e1, e2 => by
    cases h with
    | cons h1 h2 => exact h2.get (i := i) (by simpa using e1) (by simpa using e2)
theorem RelA.pushS {vs : List V} {ds : List D} {xs : List (Option V)} {os : List O} (r : RelA K S AA H xs os) (h : RpSs K H (fun a => S a ∨ a ∈ AA) vs ds) : RelA K S AA H (vs.map some ++ xs) (ds.map .sh ++ os) := by
  refine ⟨?_, r.nd, r.ns, r.st⟩
  have q : ∀ {vs : List V} {ds : List D}, RpSs K H (fun a => S a ∨ a ∈ AA) vs ds → RpOs K H (fun a => S a ∨ a ∈ AA) (vs.map some) (ds.map O.sh) [] := by
    intro vs ds h
    induction ds generalizing vs with
    | nil => cases h; exact .nil
    | cons d ds ih =>
      cases h with
      | cons h1 h2 => exact RpOs.cons (A := []) (.sh h1) (ih h2)
  exact RpOs.app (q h) r.rp
theorem nb_sh : ∀ (ds : List D), (ds.map O.sh).all (fun o => !isBor o) = true
  | [] => rfl
  | d :: ds => nb_sh ds
theorem kill_nb : ∀ {os : List O}, os.all (fun o => !isBor o) = true → os.map kill = os
  | [], _ => rfl
  | o :: os, h => by
    rw [List.all_cons, Bool.and_eq_true] at h
    rw [List.map_cons, kill_nb h.2]
    cases o with
    | bor o => cases h.1
    | _ => rfl
/-- a tuple is opened -/
theorem RelA.untup {v : V} {o : O} {us : List O} {xs : List (Option V)} {os : List O} (r : RelA K S AA H (some v :: xs) (o :: os)) (h : unTup o = some us) :
    ∃ a vs AA', v = .ref a ∧ SqT K H a vs ∧ vs.length = us.length ∧ RelA K S AA' H (vs.map some ++ xs) (us ++ os) ∧ us.all (fun o => !isBor o) = true ∧ ∀ a ∈ AA', a ∈ AA := by
  have viaKids : ∀ ds, kids o = some (.tup, ds) → us = ds.map .sh → ∃ a vs AA', v = .ref a ∧ SqT K H a vs ∧ vs.length = us.length ∧ RelA K S AA' H (vs.map some ++ xs) (us ++ os) ∧ us.all (fun o => !isBor o) = true ∧ ∀ a ∈ AA', a ∈ AA := by
    intro ds hk hu
    obtain ⟨a, vs, e1, h1, h2⟩ := r.kidsAt (i := 0) rfl rfl hk
    obtain ⟨A1, r1, s1⟩ := r.drop1
    refine ⟨a, vs, A1, e1, h1.seqT, by rw [hu, List.length_map, h2.len], ?_, by rw [hu]; exact nb_sh ds, s1⟩
    rw [hu]
    exact r1.pushS (h2.sub s1)
  cases o with
  | sh d =>
    cases d with
    | nd l cs =>
      cases l with
      | tup => cases h; exact viaKids cs rfl rfl
      | _ => cases h
    | sc s => cases h
  | ow l cs =>
    cases l with
    | tup => cases h; exact viaKids cs rfl rfl
    | _ => cases h
  | dp l cs =>
    cases l with
    | tup =>
      cases h
      have h0 := r.rp
      generalize hB : (fun a => S a ∨ a ∈ AA) = B at h0
      cases h0 with
      | @cons _ _ _ _ A0 A1 h1 h2 =>
        cases h1 with
        | @dp a hh _ vs _ A c1 c2 c3 c4 =>
          have nd := r.nd
          have ns := r.ns
          have st := r.st
          have sub : ∀ b ∈ A ++ A1, b ∈ a :: A ++ A1 := fun b hb => List.mem_cons_of_mem _ hb
          have ec : hh = .tup vs := c2
          rw [ec] at c1
          refine ⟨a, vs, A ++ A1, rfl, .inl (.inl c1), ?_, ⟨?_, (List.nodup_cons.mp nd).2, fun b hb => ns b (sub b hb), st⟩, c3, sub⟩
          · have := c4.length
            rwa [List.length_map] at this
          · refine RpOs.pure (Keep.here fun b z => ?_) (Same.refl H) _ (c4.app h2)
            rw [← hB]
            exact z.imp_right (sub b)
    | _ => cases h
  | _ => cases h
end
section
variable {K : PySem.W.Frag} {io : List Nat}
theorem sg_name {i : Nat} (h : io.contains i = false) : SndG K io (gName i) (vgName i) := by
  intro S AA H σ ρ v o k Q r hQ hk
  obtain ⟨A1, r1, s1⟩ := r.store i
  exact hQ _ H _ A1 hk (stOk_set h) r1 (Ext.refl.sub s1)
theorem sg_nil : SndGs K io gNil vgNil := by
  intro S AA H σ ρ vs os k Q r hl _ hQ h
  obtain ⟨e, h⟩ := h
  subst e
  have e : vs = [] := List.length_eq_zero_iff.mp hl
  subst e
  exact ⟨rfl, hQ σ H ρ AA h .refl r .refl⟩
theorem sg_cons {t : TG} {g : VG} {ts : TGs} {gs : VGs} (h1 : SndG K io t g) (h2 : SndGs K io ts gs) : SndGs K io (gCons t ts) (vgCons g gs) := by
  intro S AA H σ ρ vs os k Q r hl hb hQ h
  cases os with
  | nil => exact (show False from h).elim
  | cons o os =>
    cases vs with
    | nil => cases hl
    | cons v vs =>
      have hl' : vs.length = os.length := by simpa using hl
      refine ⟨v, vs, rfl, ?_⟩
      -- the rest of the tuple stands by: moved behind
      have r' : RelA K S AA H (some v :: (vs.map some ++ σ)) (o :: (os ++ ρ)) := r
      obtain ⟨T, A, eT, f1, f2⟩ : ∃ T A, AA = T ++ A ∧ RpO K H (fun a => S a ∨ a ∈ AA) (some v) o T ∧ RpOs K H (fun a => S a ∨ a ∈ AA) (vs.map some ++ σ) (os ++ ρ) A := by
        have h0 := r'.rp
        generalize (fun a => S a ∨ a ∈ AA) = B at h0
        cases h0 with
        | cons a b => exact ⟨_, _, rfl, a, b⟩
      obtain ⟨A1, A2, eA, g1, g2⟩ := f2.split (by simpa using hl')
      subst eA
      subst eT
      obtain ⟨n1, n2, n3⟩ := List.nodup_append.mp r'.nd
      obtain ⟨m1, m2, m3⟩ := List.nodup_append.mp n2
      -- the head's target, under the rest
      have rel : RelA K (fun a => S a ∨ a ∈ A1) (T ++ A2) H (some v :: σ) (o :: ρ) := by
        refine ⟨(RpOs.cons f1 g2).congr fun a => ?_, ?_, fun a ha z => ?_, fun a ha => ?_⟩
        · simp only [List.mem_append]
          constructor
          · rintro (z | z | z | z)
            · exact .inl (.inl z)
            · exact .inr (.inl z)
            · exact .inl (.inr z)
            · exact .inr (.inr z)
          · rintro ((z | z) | z | z)
            · exact .inl z
            · exact .inr (.inr (.inl z))
            · exact .inr (.inl z)
            · exact .inr (.inr (.inr z))
        · exact List.nodup_append.mpr ⟨n1, m2, fun a ha b hb e => n3 a ha b (List.mem_append_right _ hb) e⟩
        · rcases List.mem_append.mp ha with ha | ha
          · rcases z with z | z
            · exact r'.ns a (List.mem_append_left _ ha) z
            · exact n3 a ha a (List.mem_append_left _ z) rfl
          · rcases z with z | z
            · exact r'.ns a (List.mem_append_right _ (List.mem_append_right _ ha)) z
            · exact m3 a z a ha rfl
        · rcases ha with ha | ha
          · exact r'.st a ha
          · exact RpOs.tracked os g1 a ha
      refine h1 _ _ H σ ρ v o _ _ rel (fun σ1 H1 ρ1 A3 hk1 so1 r1 x1 => ?_) h
      have hb' : os.all (fun o => !isBor o) = true := by
        rw [List.all_cons, Bool.and_eq_true] at hb
        exact hb.2
      have dis : ∀ a ∈ A1, a ∉ T ++ A2 := fun a ha z => by
        rcases List.mem_append.mp z with z | z
        · exact n3 a z a (List.mem_append_left _ ha) rfl
        · exact m3 a ha a z rfl
      have g1' : RpOs K H (fun a => S a ∨ a ∈ A1 ++ (T ++ A2)) (vs.map some) os A1 := g1.congr fun a => by
        simp only [List.mem_append]
        constructor
        · rintro (z | z | z | z)
          · exact .inl z
          · exact .inr (.inr (.inl z))
          · exact .inr (.inl z)
          · exact .inr (.inr (.inr z))
        · rintro (z | z | z | z)
          · exact .inl z
          · exact .inr (.inr (.inl z))
          · exact .inr (.inl z)
          · exact .inr (.inr (.inr z))
      have rj := RelA.join g1' m1 (fun a ha => r'.ns a (List.mem_append_right _ (List.mem_append_left _ ha))) dis x1 r1 (.inl rfl)
      rw [kill_nb hb'] at rj
      have xj : Ext (T ++ (A1 ++ A2)) H (A1 ++ A3) H1 := by
        refine Ext.trans ((Ext.refl (AA := T ++ (A1 ++ A2)) (H := H)).sub (A2 := A1 ++ (T ++ A2)) fun a ha => ?_) x1.front
        simp only [List.mem_append] at ha ⊢
        rcases ha with z | z | z
        · exact .inr (.inl z)
        · exact .inl z
        · exact .inr (.inr z)
      exact h2 S _ H1 σ1 ρ1 vs os k Q rj hl' hb' (fun σ' H' ρ' AA' a b c d => hQ σ' H' ρ' AA' a (so1.trans b) c (xj.trans d)) hk1
theorem sg_tup {n : Nat} {ts : TGs} {gs : VGs} (h : SndGs K io ts gs) : SndG K io (gTup K n ts) (vgTup n gs) := by
  intro S AA H σ ρ v o k Q r hQ hk
  have hk0 : match unTup o with | some os => os.length = n ∧ gs os ρ k | none => False := hk
  cases e : unTup o with
  | none => rw [e] at hk0; exact hk0.elim
  | some us =>
    rw [e] at hk0
    obtain ⟨a, vs, A1, e1, h1, hl, r1, hb, s1⟩ := r.untup e
    refine ⟨a, vs, e1, h1, by rw [hl, hk0.1], ?_⟩
    exact h S A1 H σ ρ vs us k Q r1 hl hb (fun σ' H' ρ' AA' a b c d => hQ σ' H' ρ' AA' a b c ((Ext.refl.sub s1).trans d)) hk0.2
end
end VL

namespace VL
open PySem PySem.Spec L2

/-! ### what is walked -/
abbrev VI := Env → (List D → Env → Prop) → XP → Prop
/-- the iterator J, from (AA1, H1) on, yields ds -/
def ItOk (K : PySem.W.Frag) (S : Addr → Prop) (AA1 : List Addr) (H1 : Hp) (J : It) (ds : List D) : Prop := ∀ (H : Hp) (AA : List Addr) (σ : L2.St) (ρ : Env), RelA K S AA H σ ρ → Ext AA1 H1 AA H →
  (∀ (i : Nat) (d : D), ds[i]? = some d → J.go i H ∧ ∀ x H', J.yld i H x H' → RelA K S AA H' (some x :: σ) (.sh d :: ρ) ∧ Ext AA H AA H') ∧ J.stop ds.length H
def SndI (K : PySem.W.Frag) (W : WX) (t : TI) (r : VI) : Prop := ∀ (S : Addr → Prop) (AA : List Addr) (H : Hp) (σ : L2.St) (ρ : Env) (φ : List D → Env → Prop) (ε : XP) (R : It → Hp → Prop), RelA K S AA H σ ρ → LinkE K S AA H W σ ε →
  (∀ J H1 ds ρ1 AA1, φ ds ρ1 → RelA K S AA1 H1 σ ρ1 → Ext AA H AA1 H1 → ItOk K S AA1 H1 J ds → R J H1) → r ρ φ ε → t σ H R
structure Iv (X : Cx) (W : WX) (tg iter : Expr) (r : VI) : Prop where
  ex : ∃ t, PI X tg iter t ∧ SndI X.K W t r
def seqOf (l : Lab) : D → Option (List D)
  | .nd .lst ds => match l with
    | .lst => some ds
    | _ => none
  | .nd .fzl ds => match l with
    | .lst => some ds
    | _ => none
  | .nd .tup ds => match l with
    | .tup => some ds
    | _ => none
  | _ => none
def frD (o : O) (k : D → Prop) : Prop := match fz o with
  | some d => k d
  | none => False
theorem frD_of {o : O} {k : D → Prop} (h : frD o k) : ∃ d, fz o = some d ∧ k d := by
  unfold frD at h
  cases e : fz o with
  | none => rw [e] at h; exact h.elim
  | some d => rw [e] at h; exact ⟨d, rfl, h⟩
def vSeqI (l : Lab) (r : VE) : VI := fun ρ φ ε => r ρ (fun o ρ' => frD o fun d => match seqOf l d with
  | some ds => φ ds ρ'
  | none => False) ε
def intsD (lo c : Int) (n : Nat) : List D := (List.range n).map fun i => .sc (.int (lo + (i : Nat) * c))
def rngN (i j : Int) : Nat := (j - i).toNat
def vRng1 (ra : VA) : VI := fun ρ φ ε => ra ρ (fun os ρ' => match os with
  | [.sh (.sc (.int j))] => (-(2 ^ 62) ≤ j ∧ j < 2 ^ 62) ∧ φ (intsD 0 1 j.toNat) ρ'
  | _ => False) ε
def vRng2 (ra : VA) : VI := fun ρ φ ε => ra ρ (fun os ρ' => match os with
  | [.sh (.sc (.int i)), .sh (.sc (.int j))] => (-(2 ^ 62) ≤ i ∧ i < 2 ^ 62 ∧ -(2 ^ 62) ≤ j ∧ j < 2 ^ 62) ∧ φ (intsD i 1 (j - i).toNat) ρ'
  | _ => False) ε
/-- range(i, j, c), c given -/
def vRng3 (c : Int) (n : Int → Int → Nat) (ra : VA) : VI := fun ρ φ ε => ra ρ (fun os ρ' => match os with
  | [.sh (.sc (.int i)), .sh (.sc (.int j)), .sh (.sc (.int k))] => (k = c ∧ RgC i j c (n i j)) ∧ φ (intsD i c (n i j)) ρ'
  | _ => False) ε
def numbered : Nat → List D → List D
  | _, [] => []
  | i, d :: ds => .nd .tup [.sc (.int (i : Nat)), d] :: numbered (i + 1) ds
def vEnum (r : VA) : VI := fun ρ φ ε => r ρ (fun os ρ' => match os with
  | [o] => frD o fun d => match seqOf .lst d with
    | some ds => φ (numbered 0 ds) ρ'
    | none => False
  | _ => False) ε
def pairsD : List D → List D → List D
  | a :: as, b :: bs => .nd .tup [a, b] :: pairsD as bs
  | _, _ => []
def vZip (l : Lab) (r : VA) : VI := fun ρ φ ε => r ρ (fun os ρ' => match fzL os with
  | some [d, e] => match seqOf l d, seqOf l e with
    | some ds, some es => φ (pairsD ds es) ρ'
    | _, _ => False
  | _ => False) ε
def charsD (x : Str) : List D := x.cps.toList.map fun c => .sc (.str ⟨#[c]⟩)
def vStrI (r : VE) : VI := fun ρ φ ε => r ρ (fun o ρ' => match o with
  | .sh (.sc (.str x)) => φ (charsD x) ρ'
  | _ => False) ε
def vRevI (l : Lab) (r : VE) : VI := fun ρ φ ε => r ρ (fun o ρ' => frD o fun d => match seqOf l d with
  | some ds => φ ds.reverse ρ'
  | none => False) ε
section
variable {K : PySem.W.Frag} {S : Addr → Prop} {AA : List Addr} {H : Hp}
theorem RelA.fz1 {v : V} {o : O} {d : D} {xs : List (Option V)} {os : List O} (r : RelA K S AA H (some v :: xs) (o :: os)) (h : fz o = some d) : ∃ A, RelA K S A H xs os ∧ RpS K H (fun a => S a ∨ a ∈ A) v d ∧ ∀ a ∈ A, a ∈ AA := by
  have hfl : fzL [o] = some [d] := by
    show (match fz o with | some d => (match fzL [] with | some ds => some (d :: ds) | none => none) | none => none) = _
    rw [h]
    rfl
  obtain ⟨A, r1, hs, s1⟩ := RelA.froze (vs := [v]) (us := [o]) r rfl hfl
  cases hs with
  | cons h1 _ => exact ⟨A, r1, h1, s1⟩
theorem RpS.ext {AA1 : List Addr} {H1 : Hp} {v : V} {d : D} (h : RpS K H1 (fun a => S a ∨ a ∈ AA1) v d) (x : Ext AA1 H1 AA H) : RpS K H (fun a => S a ∨ a ∈ AA) v d :=
  RpS.keep (x.keeps (T := [])) d h
theorem RpS.seqL {B : Addr → Prop} {v : V} {d : D} {ds : List D} (h : RpS K H B v d) (e : seqOf .lst d = some ds) : ∃ a vs, v = .ref a ∧ SqL K H a vs ∧ RpSs K H B vs ds := by
  cases h with
  | sc s => cases e
  | @nd a l vs ds' h1 h2 =>
    cases l with
    | lst => cases e; exact ⟨a, vs, rfl, h1.seqL, h2⟩
    | fzl => cases e; exact ⟨a, vs, rfl, h1.seqF, h2⟩
    | _ => cases e
theorem RpS.seqT {B : Addr → Prop} {v : V} {d : D} {ds : List D} (h : RpS K H B v d) (e : seqOf .tup d = some ds) : ∃ a vs, v = .ref a ∧ SqT K H a vs ∧ RpSs K H B vs ds := by
  cases h with
  | sc s => cases e
  | @nd a l vs ds' h1 h2 =>
    cases l with
    | tup => cases e; exact ⟨a, vs, rfl, h1.seqT, h2⟩
    | _ => cases e
theorem RpSs.at_ {B : Addr → Prop} {vs : List V} {ds : List D} (h : RpSs K H B vs ds) {i : Nat} {d : D} (e : ds[i]? = some d) : ∃ v, vs[i]? = some v ∧ RpS K H B v d := by
  have hl := h.len
  have hi : i < vs.length := by
    rw [hl]
    exact (List.getElem?_eq_some_iff.mp e).1
  exact ⟨vs[i], List.getElem?_eq_getElem hi, h.get (List.getElem?_eq_getElem hi) e⟩
theorem itOk_lst {v : V} {d : D} {ds : List D} (h : RpS K H (fun a => S a ∨ a ∈ AA) v d) (e : seqOf .lst d = some ds) : ∃ a, v = .ref a ∧ (∃ xs, SqL K H a xs) ∧ ItOk K S AA H (Itl K a) ds := by
  obtain ⟨a, vs, ev, hq, _⟩ := h.seqL e
  refine ⟨a, ev, ⟨vs, hq⟩, fun H2 A2 σ ρ r x => ?_⟩
  obtain ⟨a', vs', ev', hq', hs'⟩ := (h.ext x).seqL e
  rw [ev] at ev'
  cases ev'
  refine ⟨fun i d' ed => ?_, vs', hq', Nat.le_of_eq hs'.len⟩
  obtain ⟨w, ew, hw⟩ := hs'.at_ ed
  refine ⟨⟨vs', w, hq', ew⟩, fun y H' hy => ?_⟩
  obtain ⟨eH, hy⟩ := hy
  subst eH
  have : some y = some w := (hy vs' hq').symm.trans ew
  cases this
  exact ⟨r.push (.sh hw), Ext.refl⟩
theorem itOk_tup {v : V} {d : D} {ds : List D} (h : RpS K H (fun a => S a ∨ a ∈ AA) v d) (e : seqOf .tup d = some ds) : ∃ a, v = .ref a ∧ (∃ xs, SqT K H a xs) ∧ ItOk K S AA H (Itt K a) ds := by
  obtain ⟨a, vs, ev, hq, _⟩ := h.seqT e
  refine ⟨a, ev, ⟨vs, hq⟩, fun H2 A2 σ ρ r x => ?_⟩
  obtain ⟨a', vs', ev', hq', hs'⟩ := (h.ext x).seqT e
  rw [ev] at ev'
  cases ev'
  refine ⟨fun i d' ed => ?_, vs', hq', Nat.le_of_eq hs'.len⟩
  obtain ⟨w, ew, hw⟩ := hs'.at_ ed
  refine ⟨⟨vs', w, hq', ew⟩, fun y H' hy => ?_⟩
  obtain ⟨eH, hy⟩ := hy
  subst eH
  have : some y = some w := (hy vs' hq').symm.trans ew
  cases this
  exact ⟨r.push (.sh hw), Ext.refl⟩
theorem itOk_revL {v : V} {d : D} {ds : List D} (h : RpS K H (fun a => S a ∨ a ∈ AA) v d) (e : seqOf .lst d = some ds) : ∃ a xs, v = .ref a ∧ SqL K H a xs ∧ ItOk K S AA H (Itv K a xs.length) ds.reverse := by
  obtain ⟨a, vs, ev, hq, hs⟩ := h.seqL e
  refine ⟨a, vs, ev, hq, fun H2 A2 σ ρ r x => ?_⟩
  obtain ⟨a', vs', ev', hq', hs'⟩ := (h.ext x).seqL e
  rw [ev] at ev'
  cases ev'
  have hl := hs.len
  have hl' := hs'.len
  refine ⟨fun i d' ed => ?_, ?_⟩
  · have hi : i < ds.length := by
      have := (List.getElem?_eq_some_iff.mp ed).1
      rwa [List.length_reverse] at this
    rw [List.getElem?_reverse hi] at ed
    obtain ⟨w, ew, hw⟩ := hs'.at_ ed
    rw [← hl] at ew
    refine ⟨⟨by omega, vs', w, hq', ew⟩, fun y H' hy => ?_⟩
    obtain ⟨eH, hy⟩ := hy
    subst eH
    have : some y = some w := (hy vs' hq').symm.trans ew
    cases this
    exact ⟨r.push (.sh hw), Ext.refl⟩
  · show vs.length ≤ _
    rw [List.length_reverse]
    omega
theorem itOk_revT {v : V} {d : D} {ds : List D} (h : RpS K H (fun a => S a ∨ a ∈ AA) v d) (e : seqOf .tup d = some ds) : ∃ a xs, v = .ref a ∧ SqT K H a xs ∧ ItOk K S AA H (RT.ItvT K a xs.length) ds.reverse := by
  obtain ⟨a, vs, ev, hq, hs⟩ := h.seqT e
  refine ⟨a, vs, ev, hq, fun H2 A2 σ ρ r x => ?_⟩
  obtain ⟨a', vs', ev', hq', hs'⟩ := (h.ext x).seqT e
  rw [ev] at ev'
  cases ev'
  have hl := hs.len
  have hl' := hs'.len
  refine ⟨fun i d' ed => ?_, ?_⟩
  · have hi : i < ds.length := by
      have := (List.getElem?_eq_some_iff.mp ed).1
      rwa [List.length_reverse] at this
    rw [List.getElem?_reverse hi] at ed
    obtain ⟨w, ew, hw⟩ := hs'.at_ ed
    rw [← hl] at ew
    refine ⟨⟨by omega, vs', w, hq', ew⟩, fun y H' hy => ?_⟩
    obtain ⟨eH, hy⟩ := hy
    subst eH
    have : some y = some w := (hy vs' hq').symm.trans ew
    cases this
    exact ⟨r.push (.sh hw), Ext.refl⟩
  · show vs.length ≤ _
    rw [List.length_reverse]
    omega
theorem intsD_get {lo c : Int} {n i : Nat} {d : D} (e : (intsD lo c n)[i]? = some d) : i < n ∧ d = .sc (.int (lo + (i : Nat) * c)) := by
  unfold intsD at e
  rw [List.getElem?_map] at e
  cases e2 : (List.range n)[i]? with
  | none => rw [e2] at e; cases e
  | some j =>
    rw [e2] at e
    have h := List.getElem?_eq_some_iff.mp e2
    obtain ⟨h1, h2⟩ := h
    rw [List.length_range] at h1
    rw [List.getElem_range] at h2
    subst h2
    cases e
    exact ⟨h1, rfl⟩
theorem intsD_len {lo c : Int} {n : Nat} : (intsD lo c n).length = n := by
  unfold intsD
  rw [List.length_map, List.length_range]
theorem itOk_rng {lo : Int} {n : Nat} : ItOk K S AA H (Itr lo n) (intsD lo 1 n) := by
  intro H2 A2 σ ρ r x
  refine ⟨fun i d e => ?_, ?_⟩
  · obtain ⟨h1, h2⟩ := intsD_get e
    refine ⟨h1, fun y H' hy => ?_⟩
    obtain ⟨eH, ey⟩ := hy
    subst eH ey h2
    rw [Int.mul_one]
    exact ⟨r.sc (.int _), Ext.refl⟩
  · show n ≤ _
    rw [intsD_len]
    exact Nat.le_refl n
theorem itOk_rngC {lo c : Int} {n : Nat} : ItOk K S AA H (Itc lo c n) (intsD lo c n) := by
  intro H2 A2 σ ρ r x
  refine ⟨fun i d e => ?_, ?_⟩
  · obtain ⟨h1, h2⟩ := intsD_get e
    refine ⟨h1, fun y H' hy => ?_⟩
    obtain ⟨eH, ey⟩ := hy
    subst eH ey h2
    exact ⟨r.sc (.int _), Ext.refl⟩
  · show n ≤ _
    rw [intsD_len]
    exact Nat.le_refl n
theorem numbered_get : ∀ {ds : List D} {k i : Nat} {d : D}, (numbered k ds)[i]? = some d → ∃ e, ds[i]? = some e ∧ d = .nd .tup [.sc (.int ((k + i : Nat) : Int)), e]
  | [], _, _, _, e => by simp [numbered] at e
  | x :: ds, k, 0, d, e => by
    cases e
    exact ⟨x, rfl, rfl⟩
  | x :: ds, k, i + 1, d, e => by
    have e' : (numbered (k + 1) ds)[i]? = some d := e
    obtain ⟨y, h1, h2⟩ := numbered_get e'
    refine ⟨y, h1, ?_⟩
    rw [h2, show k + 1 + i = k + (i + 1) by omega]
theorem numbered_len : ∀ {ds : List D} {k : Nat}, (numbered k ds).length = ds.length
  | [], _ => rfl
  | _ :: ds, k => by
    show (numbered (k + 1) ds).length + 1 = _
    rw [numbered_len]; rfl
theorem itOk_enum {v : V} {d : D} {ds : List D} (h : RpS K H (fun a => S a ∨ a ∈ AA) v d) (e : seqOf .lst d = some ds) : ∃ a xs, v = .ref a ∧ SqL K H a xs ∧ ItOk K S AA H (Ite K a) (numbered 0 ds) := by
  obtain ⟨a, vs, ev, hq, _⟩ := h.seqL e
  refine ⟨a, vs, ev, hq, fun H2 A2 σ ρ r x => ?_⟩
  obtain ⟨a', vs', ev', hq', hs'⟩ := (h.ext x).seqL e
  rw [ev] at ev'
  cases ev'
  refine ⟨fun i d' ed => ?_, vs', hq', by rw [numbered_len]; exact Nat.le_of_eq hs'.len⟩
  obtain ⟨y, ey, e2⟩ := numbered_get ed
  obtain ⟨w, ew, hw⟩ := hs'.at_ ey
  refine ⟨⟨vs', w, hq', ew⟩, fun z H' hz => ?_⟩
  obtain ⟨T, u, rfl, hT, eH, hu⟩ := hz
  have : some u = some w := (hu vs' hq').symm.trans ew
  cases this
  subst eH e2
  rw [Nat.zero_add]
  obtain ⟨q1, q2, _⟩ := RelA.newS (l := .tup) (vs := [.int (i : Nat), w]) (ds := [.sc (.int (i : Nat)), y]) r hT rfl (.cons (.sc (.int _)) (.cons hw .nil))
  exact ⟨q1, q2⟩
theorem pairsD_get : ∀ {ds es : List D} {i : Nat} {d : D}, (pairsD ds es)[i]? = some d → ∃ x y, ds[i]? = some x ∧ es[i]? = some y ∧ d = .nd .tup [x, y]
  | [], _, _, _, e => by simp [pairsD] at e
  | _ :: _, [], _, _, e => by simp [pairsD] at e
  | x :: ds, y :: es, 0, d, e => by
    cases e
    exact ⟨x, y, rfl, rfl, rfl⟩
  | x :: ds, y :: es, i + 1, d, e => by
    have e' : (pairsD ds es)[i]? = some d := e
    obtain ⟨u, v, h1, h2, h3⟩ := pairsD_get e'
    exact ⟨u, v, h1, h2, h3⟩
theorem pairsD_len : ∀ {ds es : List D}, (pairsD ds es).length = min ds.length es.length
  | [], _ => by simp [pairsD]
  | _ :: _, [] => by simp [pairsD]
  | x :: ds, y :: es => by
    show (pairsD ds es).length + 1 = _
    rw [pairsD_len, List.length_cons, List.length_cons]
    omega
theorem itOk_zipL {v w : V} {d e : D} {ds es : List D} (h : RpS K H (fun a => S a ∨ a ∈ AA) v d) (h2 : RpS K H (fun a => S a ∨ a ∈ AA) w e) (e1 : seqOf .lst d = some ds) (e2 : seqOf .lst e = some es) :
    ∃ a b xs ys, v = .ref a ∧ w = .ref b ∧ SqL K H a xs ∧ SqL K H b ys ∧ ItOk K S AA H (Itz K a b) (pairsD ds es) := by
  obtain ⟨a, vs, ev, hq, _⟩ := h.seqL e1
  obtain ⟨b, ws, ew, hq2, _⟩ := h2.seqL e2
  refine ⟨a, b, vs, ws, ev, ew, hq, hq2, fun H2 A2 σ ρ r x => ?_⟩
  obtain ⟨a', vs', ev', hq', hs'⟩ := (h.ext x).seqL e1
  rw [ev] at ev'
  cases ev'
  obtain ⟨b', ws', ew', hq2', hs2'⟩ := (h2.ext x).seqL e2
  rw [ew] at ew'
  cases ew'
  have l1 := hs'.len
  have l2 := hs2'.len
  refine ⟨fun i d' ed => ?_, vs', ws', hq', hq2', by rw [pairsD_len]; omega⟩
  obtain ⟨x1, y1, ex, ey, e3⟩ := pairsD_get ed
  obtain ⟨u1, eu1, hu1⟩ := hs'.at_ ex
  obtain ⟨u2, eu2, hu2⟩ := hs2'.at_ ey
  refine ⟨⟨vs', ws', u1, u2, hq', hq2', eu1, eu2⟩, fun z H' hz => ?_⟩
  obtain ⟨T, p, q, rfl, hT, eH, hp, hq3⟩ := hz
  have : some p = some u1 := (hp vs' hq').symm.trans eu1
  cases this
  have : some q = some u2 := (hq3 ws' hq2').symm.trans eu2
  cases this
  subst eH e3
  obtain ⟨q1, q2, _⟩ := RelA.newS (l := .tup) (vs := [u1, u2]) (ds := [x1, y1]) r hT rfl (.cons hu1 (.cons hu2 .nil))
  exact ⟨q1, q2⟩
theorem itOk_zipT {v w : V} {d e : D} {ds es : List D} (h : RpS K H (fun a => S a ∨ a ∈ AA) v d) (h2 : RpS K H (fun a => S a ∨ a ∈ AA) w e) (e1 : seqOf .tup d = some ds) (e2 : seqOf .tup e = some es) :
    ∃ a b xs ys, v = .ref a ∧ w = .ref b ∧ SqT K H a xs ∧ SqT K H b ys ∧ ItOk K S AA H (RZ.ItzT K a b) (pairsD ds es) := by
  obtain ⟨a, vs, ev, hq, _⟩ := h.seqT e1
  obtain ⟨b, ws, ew, hq2, _⟩ := h2.seqT e2
  refine ⟨a, b, vs, ws, ev, ew, hq, hq2, fun H2 A2 σ ρ r x => ?_⟩
  obtain ⟨a', vs', ev', hq', hs'⟩ := (h.ext x).seqT e1
  rw [ev] at ev'
  cases ev'
  obtain ⟨b', ws', ew', hq2', hs2'⟩ := (h2.ext x).seqT e2
  rw [ew] at ew'
  cases ew'
  have l1 := hs'.len
  have l2 := hs2'.len
  refine ⟨fun i d' ed => ?_, vs', ws', hq', hq2', by rw [pairsD_len]; omega⟩
  obtain ⟨x1, y1, ex, ey, e3⟩ := pairsD_get ed
  obtain ⟨u1, eu1, hu1⟩ := hs'.at_ ex
  obtain ⟨u2, eu2, hu2⟩ := hs2'.at_ ey
  refine ⟨⟨vs', ws', u1, u2, hq', hq2', eu1, eu2⟩, fun z H' hz => ?_⟩
  obtain ⟨T, p, q, rfl, hT, eH, hp, hq3⟩ := hz
  have : some p = some u1 := (hp vs' hq').symm.trans eu1
  cases this
  have : some q = some u2 := (hq3 ws' hq2').symm.trans eu2
  cases this
  subst eH e3
  obtain ⟨q1, q2, _⟩ := RelA.newS (l := .tup) (vs := [u1, u2]) (ds := [x1, y1]) r hT rfl (.cons hu1 (.cons hu2 .nil))
  exact ⟨q1, q2⟩
theorem itOk_str {x : Str} : ItOk K S AA H (Its x) (charsD x) := by
  intro H2 A2 σ ρ r _
  refine ⟨fun i d e => ?_, ?_⟩
  · unfold charsD at e
    rw [List.getElem?_map] at e
    cases e2 : x.cps.toList[i]? with
    | none => rw [e2] at e; cases e
    | some c =>
      rw [e2] at e
      cases e
      have hc : x.cps[i]? = some c := by rw [← e2, Array.getElem?_toList]
      refine ⟨(Array.getElem?_eq_some_iff.mp hc).1, fun y H' hy => ?_⟩
      obtain ⟨eH, c', ec, ey⟩ := hy
      rw [hc] at ec
      cases ec
      subst eH ey
      exact ⟨r.sc (.str _), Ext.refl⟩
  · show x.cps.size ≤ _
    unfold charsD
    rw [List.length_map]
    exact Nat.le_refl _
end
section
variable {X : Cx} {W : WX} {p : Bool} {tg e : Expr} {r : VE} {ra : VA} {pp pos : Pos}
theorem iv_list (he : Ev X W p e r) : Iv X W tg e (vSeqI .lst r) := by
  obtain ⟨t, ht, st⟩ := he.ex
  refine ⟨_, pi_list ht, fun S AA H σ ρ φ ε R rel l hR h => ?_⟩
  refine st S AA H σ ρ _ ε _ rel l (fun v H1 o ρ1 A1 h1 r1 x1 p1 => ?_) h
  obtain ⟨d, ed, h1⟩ := frD_of h1
  obtain ⟨A2, r2, hs, s2⟩ := r1.fz1 ed
  cases e2 : seqOf .lst d with
  | none => rw [e2] at h1; exact h1.elim
  | some ds =>
    rw [e2] at h1
    obtain ⟨a, ev, hq, it⟩ := itOk_lst hs e2
    exact ⟨a, ev, hq, hR _ H1 ds ρ1 A2 h1 r2 (x1.sub s2) it⟩
theorem iv_tup (he : Ev X W p e r) : Iv X W tg e (vSeqI .tup r) := by
  obtain ⟨t, ht, st⟩ := he.ex
  refine ⟨_, pi_tup ht, fun S AA H σ ρ φ ε R rel l hR h => ?_⟩
  refine st S AA H σ ρ _ ε _ rel l (fun v H1 o ρ1 A1 h1 r1 x1 p1 => ?_) h
  obtain ⟨d, ed, h1⟩ := frD_of h1
  obtain ⟨A2, r2, hs, s2⟩ := r1.fz1 ed
  cases e2 : seqOf .tup d with
  | none => rw [e2] at h1; exact h1.elim
  | some ds =>
    rw [e2] at h1
    obtain ⟨a, ev, hq, it⟩ := itOk_tup hs e2
    exact ⟨a, ev, hq, hR _ H1 ds ρ1 A2 h1 r2 (x1.sub s2) it⟩
theorem iv_str (he : Ev X W p e r) : Iv X W tg e (vStrI r) := by
  obtain ⟨t, ht, st⟩ := he.ex
  refine ⟨_, pi_str ht, fun S AA H σ ρ φ ε R rel l hR h => ?_⟩
  refine st S AA H σ ρ _ ε _ rel l (fun v H1 o ρ1 A1 h1 r1 x1 p1 => ?_) h
  split at h1
  · obtain ⟨x, A, e1, e2⟩ := r1.get (i := 0) rfl
    cases e1
    cases e2 with
    | sh q =>
      cases q
      obtain ⟨A2, r2, s2⟩ := r1.drop1
      exact ⟨_, rfl, hR _ H1 _ ρ1 A2 h1 r2 (x1.sub s2) itOk_str⟩
  · exact h1.elim
theorem av_one_len {K : PySem.W.Frag} {S : Addr → Prop} {AA : List Addr} {H : Hp} {vs : List V} {s : Sc} {os : List O} {σ : L2.St} {ρ : Env} (r : RelA K S AA H (vs.map some ++ σ) (.sh (.sc s) :: os ++ ρ)) (hl : vs.length = (.sh (.sc s) :: os : List O).length) :
    ∃ vs', vs = s.v :: vs' ∧ vs'.length = os.length ∧ ∃ AA', RelA K S AA' H (vs'.map some ++ σ) (os ++ ρ) ∧ ∀ a ∈ AA', a ∈ AA := by
  cases vs with
  | nil => cases hl
  | cons v vs =>
    have r' : RelA K S AA H (some v :: (vs.map some ++ σ)) (.sh (.sc s) :: (os ++ ρ)) := r
    obtain ⟨x, A, e1, e2⟩ := r'.get (i := 0) rfl
    cases e1
    cases e2 with
    | sh q =>
      cases q
      obtain ⟨A2, r2, s2⟩ := r'.drop1
      exact ⟨vs, rfl, by simpa using hl, A2, r2, s2⟩
theorem iv_range1 {a : Expr} (ha : Av X W p [a] ra) (hm : X.mg "range" = none) (hg : Gl X "range" := by rfl) (hs : starEach [a] X.env = [(false, eval a X.env)] := by rfl) :
    Iv X W tg (.Call (.Name "range" pp) [a] [] pos) (vRng1 ra) := by
  obtain ⟨t, ht, st⟩ := ha.ex
  refine ⟨_, pi_range1 hg hm ht hs, fun S AA H σ ρ φ ε R rel l hR h => ?_⟩
  refine st S AA H σ ρ _ ε _ rel l (fun vs H1 os ρ1 A1 h1 hl r1 x1 p1 => ?_) h
  split at h1
  · obtain ⟨vs', ev, hl', A2, r2, s2⟩ := av_one_len r1 hl
    obtain rfl : vs' = [] := List.length_eq_zero_iff.mp hl'
    exact ⟨_, ev, h1.1.1, h1.1.2, hR _ H1 _ ρ1 A2 h1.2 r2 (x1.sub s2) itOk_rng⟩
  · exact h1.elim
theorem iv_range2 {a b : Expr} (ha : Av X W p [a, b] ra) (hm : X.mg "range" = none) (hg : Gl X "range" := by rfl) (hs : starEach [a, b] X.env = [(false, eval a X.env), (false, eval b X.env)] := by rfl) (hs2 : starEach [b] X.env = [(false, eval b X.env)] := by rfl) :
    Iv X W tg (.Call (.Name "range" pp) [a, b] [] pos) (vRng2 ra) := by
  obtain ⟨t, ht, st⟩ := ha.ex
  refine ⟨_, pi_range2 hg hm ht hs hs2, fun S AA H σ ρ φ ε R rel l hR h => ?_⟩
  refine st S AA H σ ρ _ ε _ rel l (fun vs H1 os ρ1 A1 h1 hl r1 x1 p1 => ?_) h
  split at h1
  · obtain ⟨vs', ev, hl', A2, r2, s2⟩ := av_one_len r1 hl
    obtain ⟨vs2, ev2, hl2, A3, r3, s3⟩ := av_one_len r2 hl'
    obtain rfl : vs2 = [] := List.length_eq_zero_iff.mp hl2
    subst ev2
    exact ⟨_, _, ev, h1.1, hR _ H1 _ ρ1 A3 h1.2 r3 (x1.sub fun a ha => s2 a (s3 a ha)) itOk_rng⟩
  · exact h1.elim
theorem iv_range3 {a b c : Expr} {k : Int} {n : Int → Int → Nat} (ha : Av X W p [a, b, c] ra) (hm : X.mg "range" = none) (hg : Gl X "range" := by rfl)
    (hs : starEach [a, b, c] X.env = (false, eval a X.env) :: starEach [b, c] X.env := by rfl) (hpl : (PySem.backTo pos (starEach [b, c] X.env)).any (·.1) = false := by rfl) : Iv X W tg (.Call (.Name "range" pp) [a, b, c] [] pos) (vRng3 k n ra) := by
  obtain ⟨t, ht, st⟩ := ha.ex
  refine ⟨_, pi_range3 hg hm ht hs hpl, fun S AA H σ ρ φ ε R rel l hR h => ?_⟩
  refine st S AA H σ ρ _ ε _ rel l (fun vs H1 os ρ1 A1 h1 hl r1 x1 p1 => ?_) h
  split at h1
  · obtain ⟨vs', ev, hl', A2, r2, s2⟩ := av_one_len r1 hl
    obtain ⟨vs2, ev2, hl2, A3, r3, s3⟩ := av_one_len r2 hl'
    obtain ⟨vs3, ev3, hl3, A4, r4, s4⟩ := av_one_len r3 hl2
    obtain rfl : vs3 = [] := List.length_eq_zero_iff.mp hl3
    subst ev2 ev3
    obtain ⟨⟨h2, h3⟩, h4⟩ := h1
    subst h2
    exact ⟨_, _, _, _, ev, h3, hR _ H1 _ ρ1 A4 h4 r4 (x1.sub fun a ha => s2 a (s3 a (s4 a ha))) itOk_rngC⟩
  · exact h1.elim
theorem iv_enum {elts : List Expr} {kk : Nat} {tpos : Pos} (ha : Av X W p [e] ra) (hm : X.mg "enumerate" = none) (hg : Gl X "enumerate" := by rfl) (hs : starEach [e] X.env = [(false, eval e X.env)] := by rfl) :
    Iv X W (.Tuple elts kk tpos) (.Call (.Name "enumerate" pp) [e] [] pos) (vEnum ra) := by
  obtain ⟨t, ht, st⟩ := ha.ex
  refine ⟨_, pi_enum hg hm ht hs, fun S AA H σ ρ φ ε R rel l hR h => ?_⟩
  refine st S AA H σ ρ _ ε _ rel l (fun vs H1 os ρ1 A1 h1 hl r1 x1 p1 => ?_) h
  split at h1
  · obtain ⟨v, rfl⟩ := len1 hl
    obtain ⟨d, ed, h1⟩ := frD_of h1
    obtain ⟨A2, r2, hs, s2⟩ := RelA.fz1 (xs := σ) (os := ρ1) r1 ed
    cases e2 : seqOf .lst d with
    | none => rw [e2] at h1; exact h1.elim
    | some ds =>
      rw [e2] at h1
      obtain ⟨a, xs, ev, hq, it⟩ := itOk_enum hs e2
      exact ⟨a, xs, by rw [ev], hq, hR _ H1 _ ρ1 A2 h1 r2 (x1.sub s2) it⟩
  · exact h1.elim
theorem iv_zip {elts : List Expr} {kk : Nat} {tpos : Pos} {e2 : Expr} {l : Lab} (ha : Av X W p [e, e2] ra) (hm : X.mg "zip" = none) (hl : l = .lst ∨ l = .tup := by first | exact .inl rfl | exact .inr rfl) (hg : Gl X "zip" := by rfl)
    (hs : starEach [e, e2] X.env = (false, eval e X.env) :: starEach [e2] X.env := by rfl) (hpl : (PySem.backTo pos (starEach [e2] X.env)).any (·.1) = false := by rfl) :
    Iv X W (.Tuple elts kk tpos) (.Call (.Name "zip" pp) [e, e2] [] pos) (vZip l ra) := by
  obtain ⟨t, ht, st⟩ := ha.ex
  refine ⟨_, RZ.pi_zipA hg hm ht hs hpl, fun S AA H σ ρ φ ε R rel lk hR h => ?_⟩
  refine st S AA H σ ρ _ ε _ rel lk (fun vs H1 os ρ1 A1 h1 hlen r1 x1 p1 => ?_) h
  split at h1
  next d f e3 =>
    obtain ⟨A2, r2, hs, s2⟩ := RelA.froze r1 hlen e3
    cases hs with
    | cons q1 hs =>
      cases hs with
      | cons q2 hs =>
        cases hs
        split at h1
        next ds es e4 e5 =>
          rcases hl with rfl | rfl
          · obtain ⟨a, b, xs, ys, ev, ew, hx, hy, it⟩ := itOk_zipL q1 q2 e4 e5
            exact ⟨a, b, xs, ys, by rw [ev, ew], .inl ⟨hx, hy, hR _ H1 _ ρ1 A2 h1 r2 (x1.sub s2) it⟩⟩
          · obtain ⟨a, b, xs, ys, ev, ew, hx, hy, it⟩ := itOk_zipT q1 q2 e4 e5
            exact ⟨a, b, xs, ys, by rw [ev, ew], .inr ⟨hx, hy, hR _ H1 _ ρ1 A2 h1 r2 (x1.sub s2) it⟩⟩
        · exact h1.elim
  · exact h1.elim
theorem iv_rev {l : Lab} (he : Ev X W p e r) (hm : X.mg "reversed" = none) (hl : l = .lst ∨ l = .tup := by first | exact .inl rfl | exact .inr rfl) (hg : Gl X "reversed" := by rfl) (hs : starEach [e] X.env = (false, eval e X.env) :: starEach [] X.env := by rfl) :
    Iv X W tg (.Call (.Name "reversed" pp) [e] [] pos) (vRevI l r) := by
  obtain ⟨t, ht, st⟩ := he.ex
  refine ⟨_, RT.pi_revA hg hm ht hs, fun S AA H σ ρ φ ε R rel lk hR h => ?_⟩
  refine st S AA H σ ρ _ ε _ rel lk (fun v H1 o ρ1 A1 h1 r1 x1 p1 => ?_) h
  obtain ⟨d, ed, h9⟩ := frD_of h1
  obtain ⟨A2, r2, hs, s2⟩ := r1.fz1 ed
  cases e2 : seqOf l d with
  | none => rw [e2] at h9; exact h9.elim
  | some ds =>
    rw [e2] at h9
    rcases hl with rfl | rfl
    · obtain ⟨a, xs, ev, hq, it⟩ := itOk_revL hs e2
      exact ⟨a, xs, ev, .inl ⟨hq, hR _ H1 _ ρ1 A2 h9 r2 (x1.sub s2) it⟩⟩
    · obtain ⟨a, xs, ev, hq, it⟩ := itOk_revT hs e2
      exact ⟨a, xs, ev, .inr ⟨hq, hR _ H1 _ ρ1 A2 h9 r2 (x1.sub s2) it⟩⟩
end

/-! ### for, while -/
def vForL (g : VG) (rb : VS) : List D → VS
  | [] => fun ρ k _ => k.nx ρ
  | d :: ds => fun ρ k ε => g (.sh d) ρ fun ρ1 => rb ρ1 { nx := fun ρ2 => vForL g rb ds ρ2 k ε, ct := fun ρ2 => vForL g rb ds ρ2 k ε, rt := k.rt, bk := k.nx } ε
def vFor (ri : VI) (g : VG) (rb : VS) : VS := fun ρ k ε => ri ρ (fun ds ρ1 => vForL g rb ds ρ1 k ε) ε
def vWh (rc : VT) (rb : VS) : Nat → VS
  | 0 => fun _ _ _ => False
  | n + 1 => fun ρ k ε => rc ρ (fun b ρ1 => if b = true then rb ρ1 { nx := fun ρ2 => vWh rc rb n ρ2 k ε, ct := fun ρ2 => vWh rc rb n ρ2 k ε, rt := k.rt, bk := k.nx } ε else k.nx ρ1) ε
def vWhile (rc : VT) (rb : VS) : VS := fun ρ k ε => ∃ n, vWh rc rb n ρ k ε
section
variable {K : PySem.W.Frag} {W : WX} {p : Bool} {io : List Nat}
theorem snd_for {t : TI} {ri : VI} {tg : TG} {g : VG} {tb : TS} {rb : VS} (hi : SndI K W t ri) (hg : SndG K io tg g) (hb : SndS K W io tb rb) : SndS K W io (tFor t tg tb) (vFor ri g rb) := by
  intro S AA H σ ρ k ε D r l hnx hrt hbk hct h
  refine hi S AA H σ ρ _ ε _ r l.e (fun J H1 ds ρ1 A1 h1 r1 x1 it => ?_) h
  refine ⟨fun i m σ' H' => m = ds.length - i ∧ i ≤ ds.length ∧ ∃ ρ' AA', RelA K S AA' H' σ' ρ' ∧ Ext A1 H1 AA' H' ∧ StOk io σ σ' ∧ vForL g rb (ds.drop i) ρ' k ε, ⟨ds.length, by omega, by omega, ρ1, A1, r1, Ext.refl, .refl, h1⟩, ?_⟩
  rintro i m σ2 H2 ⟨rfl, hi, ρ2, A2, r2, x2, so2, h2⟩
  obtain ⟨hgo, hstop⟩ := it H2 A2 σ2 ρ2 r2 x2
  by_cases hlt : i < ds.length
  · have ed : ds[i]? = some ds[i] := List.getElem?_eq_getElem hlt
    have e2 : ds.drop i = ds[i] :: ds.drop (i + 1) := List.drop_eq_getElem_cons hlt
    rw [e2] at h2
    obtain ⟨go, step⟩ := hgo i _ ed
    refine .inr ⟨go, fun σ' H' => ∃ ρ' AA', RelA K S AA' H' σ' ρ' ∧ Ext A1 H1 AA' H' ∧ StOk io σ σ' ∧ vForL g rb (ds.drop (i + 1)) ρ' k ε, fun σ' H' ⟨ρ', AA', q1, q2, q3, q4⟩ => ⟨ds.length - (i + 1), by omega, rfl, by omega, ρ', AA', q1, q2, q3, q4⟩, fun y H3 hy => ?_⟩
    obtain ⟨r3, x3⟩ := step y H3 hy
    refine hg S A2 H3 σ2 ρ2 y _ _ _ r3 (fun σ4 H4 ρ4 A4 h4 so4 r4 x4 => ?_) h2
    have X4 : Ext A1 H1 A4 H4 := x2.trans (x3.trans x4)
    have SO4 : StOk io σ σ4 := so2.trans so4
    refine hb S A4 H4 σ4 ρ4 { nx := fun ρ2 => vForL g rb (ds.drop (i + 1)) ρ2 k ε, ct := fun ρ2 => vForL g rb (ds.drop (i + 1)) ρ2 k ε, rt := k.rt, bk := k.nx } ε _ r4 (l.step SO4 (x1.trans X4)) (fun σ5 H5 ρ5 A5 h5 s5 r5 x5 => ⟨ρ5, A5, r5, X4.trans x5, SO4.trans s5, h5⟩) (fun v σ5 H5 o ρ5 A5 h5 s5 r5 x5 => hrt v σ5 H5 o ρ5 A5 h5 (SO4.trans s5) r5 (x1.trans (X4.trans x5)))
      (fun σ5 H5 ρ5 A5 h5 s5 r5 x5 => hnx σ5 H5 ρ5 A5 h5 (SO4.trans s5) r5 (x1.trans (X4.trans x5))) (fun σ5 H5 ρ5 A5 h5 s5 r5 x5 => ⟨ρ5, A5, r5, X4.trans x5, SO4.trans s5, h5⟩) h4
  · have e : i = ds.length := by omega
    subst e
    rw [List.drop_length] at h2
    exact .inl ⟨hstop, hnx σ2 H2 ρ2 A2 h2 so2 r2 (x1.trans x2)⟩
theorem snd_while {tc : TT} {rc : VT} {tb : TS} {rb : VS} (hc : SndT K W p tc rc) (hb : SndS K W io tb rb) : SndS K W io (tWhile tc tb) (vWhile rc rb) := by
  intro S AA H σ ρ k ε D r l hnx hrt hbk hct h
  obtain ⟨n, h⟩ := h
  refine ⟨fun m σ' H' => ∃ ρ' AA', RelA K S AA' H' σ' ρ' ∧ Ext AA H AA' H' ∧ StOk io σ σ' ∧ vWh rc rb m ρ' k ε, ⟨n, ρ, AA, r, Ext.refl, .refl, h⟩, ?_⟩
  rintro m σ2 H2 ⟨ρ2, A2, r2, x2, so2, h2⟩
  cases m with
  | zero => exact (show False from h2).elim
  | succ m =>
    refine hc S A2 H2 σ2 ρ2 _ ε _ r2 (l.step so2 x2).e (fun b H3 ρ3 A3 h3 r3 x3 p3 => ?_) h2
    cases b with
    | false =>
      rw [if_neg Bool.false_ne_true] at h3 ⊢
      exact hnx σ2 H3 ρ3 A3 h3 so2 r3 (x2.trans x3)
    | true =>
      rw [if_pos rfl] at h3 ⊢
      have X3 := x2.trans x3
      refine ⟨fun σ' H' => ∃ ρ' AA', RelA K S AA' H' σ' ρ' ∧ Ext AA H AA' H' ∧ StOk io σ σ' ∧ vWh rc rb m ρ' k ε, fun σ' H' q => ⟨m, Nat.lt_succ_self m, q⟩, ?_⟩
      exact hb S A3 H3 σ2 ρ3 { nx := fun ρ2 => vWh rc rb m ρ2 k ε, ct := fun ρ2 => vWh rc rb m ρ2 k ε, rt := k.rt, bk := k.nx } ε _ r3 (l.step so2 X3) (fun σ5 H5 ρ5 A5 h5 s5 r5 x5 => ⟨ρ5, A5, r5, X3.trans x5, so2.trans s5, h5⟩) (fun v σ5 H5 o ρ5 A5 h5 s5 r5 x5 => hrt v σ5 H5 o ρ5 A5 h5 (so2.trans s5) r5 (X3.trans x5))
        (fun σ5 H5 ρ5 A5 h5 s5 r5 x5 => hnx σ5 H5 ρ5 A5 h5 (so2.trans s5) r5 (X3.trans x5)) (fun σ5 H5 ρ5 A5 h5 s5 r5 x5 => ⟨ρ5, A5, r5, X3.trans x5, so2.trans s5, h5⟩) h3
end
section
variable {X : Cx} {W : WX} {p : Bool} {io : List Nat} {tg e c : Expr} {body : List Stmt} {pos : Pos}
theorem gv_name {i : Nat} {x : Str} {pos : Pos} (hN : X.N.Nodup) (hi : X.N[i]? = some x := by rfl) (hx : Loc X.env.scope x := by first | exact .inl rfl | exact .inr rfl) (hio : io.contains i = false := by rfl)
    (hf : X.fn x = true ∨ X.env.scope.names.lookup x = some .local := by first | exact .inl rfl | exact .inr rfl) : Gv X io (.Name x pos) (vgName i) := ⟨_, pg_name hN hi hx hf, sg_name hio⟩
theorem gsv_nil : Gsv X io [] vgNil := ⟨_, pgs_nil, sg_nil⟩
theorem gsv_cons {t : Expr} {ts : List Expr} {g : VG} {gs : VGs} (h1 : Gv X io t g) (h2 : Gsv X io ts gs) (hs : (assignEach (t :: ts) X.env).map (·.2) = assign t X.env :: (assignEach ts X.env).map (·.2) := by rfl) : Gsv X io (t :: ts) (vgCons g gs) := by
  obtain ⟨a, ha, sa⟩ := h1.ex
  obtain ⟨b, hb, sb⟩ := h2.ex
  exact ⟨_, pgs_cons ha hb hs, sg_cons sa sb⟩
theorem gv_tup {ts : List Expr} {gs : VGs} {n k : Nat} (hc : X.calm = true) (h : Gsv X io ts gs) (hn : (assignEach ts X.env).length = n := by rfl) (hst : (assignEach ts X.env).findIdx? (·.1) = none := by rfl) : Gv X io (.Tuple ts k pos) (vgTup n gs) := by
  obtain ⟨a, ha, sa⟩ := h.ex
  exact ⟨_, pg_tup hc ha hn hst, sg_tup sa⟩
theorem sv_for {ri : VI} {g : VG} {rb : VS} (hp : PassesOwn (model X.prog X.w) X.A X.env X.xe) (hc : X.calm = true) (hi : Iv X W tg e ri) (hg : Gv X io tg g) (hb : Bv X W io body rb) (hs : ∀ x, foldedSetIterable e X.env x = pure x := by intro _; rfl) :
    Sv X W io (.For tg e body [] pos) (vFor ri g rb) := by
  obtain ⟨ti, hti, si⟩ := hi.ex
  obtain ⟨t2, ht2, s2⟩ := hg.ex
  obtain ⟨t3, ht3, s3⟩ := hb.ex
  exact ⟨_, ps_for hp hc hti ht2 ht3 hs, snd_for si s2 s3⟩
theorem sv_while {rc : VT} {rb : VS} (hp : PassesOwn (model X.prog X.w) X.A X.env X.xe) (hc : Tv X W p c rc) (hb : Bv X W io body rb) : Sv X W io (.While c body [] pos) (vWhile rc rb) := by
  obtain ⟨t2, ht2, s2⟩ := hc.ex
  obtain ⟨t3, ht3, s3⟩ := hb.ex
  exact ⟨_, ps_while hp ht2 ht3, snd_while s2 s3⟩
end
end VL

namespace VL
open PySem PySem.Spec L2

/-! ### [elt for target in iter if ..] -/
def wipeE (ρ : Env) : List Nat → Env
  | [] => ρ
  | v :: vs => (wipeE ρ vs).set v .top
def othersOf (n : Nat) (vs : List Nat) : List Nat := (List.range n).filter fun i => !vs.contains i
def vLcL (g : VG) (rt : VT) (re : VE) (vs : List Nat) : List D → List D → Env → (List D → Env → Prop) → XP → Prop
  | [], acc, ρ, φ, _ => φ acc ρ
  | d :: ds, acc, ρ, φ, ε => g (.sh d) (wipeE ρ vs) fun ρ1 => rt ρ1 (fun b ρ2 => if b = true then re ρ2 (fun o ρ3 => frD o fun x => acc.length < sizeLine ∧ vLcL g rt re vs ds (acc ++ [x]) (ρ3.map kill) φ ε) ε else vLcL g rt re vs ds acc ρ2 φ ε) ε
def vLc (ri : VI) (g : VG) (rt : VT) (re : VE) (vs : List Nat) : VE := fun ρ φ ε => ri ρ (fun ds ρ1 => vLcL g rt re vs ds [] ρ1 (fun acc ρ2 => φ (.ow .lst acc) (wipeE ρ2 vs)) fun _ _ => False) ε
theorem wipe_get {σ : L2.St} {i : Nat} : ∀ {vs : List Nat}, i ∉ vs → (wipe σ vs)[i]? = σ[i]?
  | [], _ => rfl
  | v :: vs, h => by
    have h1 : v ≠ i := fun e => h (e ▸ List.mem_cons_self)
    show ((wipe σ vs).set v none)[i]? = _
    rw [List.getElem?_set_ne h1, wipe_get fun z => h (List.mem_cons_of_mem _ z)]
theorem wipe_in {σ : L2.St} {i : Nat} : ∀ {vs : List Nat}, i ∈ vs → i < σ.length → (wipe σ vs)[i]? = some none
  | v :: vs, h, hl => by
    show ((wipe σ vs).set v none)[i]? = _
    by_cases e : v = i
    · subst e
      rw [List.getElem?_set_self (by rw [wipe_length]; exact hl)]
    · rw [List.getElem?_set_ne e]
      rcases List.mem_cons.mp h with z | z
      · exact absurd z.symm e
      · exact wipe_in z hl
theorem wipe_eq {σ σ' : L2.St} {vs : List Nat} (h : StOk (othersOf σ.length vs) (wipe σ vs) σ') : wipe σ' vs = wipe σ vs := by
  apply List.ext_getElem?
  intro i
  have hl : σ'.length = σ.length := h.1.trans (wipe_length σ vs)
  by_cases hi : i ∈ vs
  · by_cases hn : i < σ.length
    · rw [wipe_in hi hn, wipe_in hi (by omega)]
    · rw [List.getElem?_eq_none (by rw [wipe_length]; omega), List.getElem?_eq_none (by rw [wipe_length]; omega)]
  · by_cases hn : i < σ.length
    · rw [wipe_get hi, h.2 i (List.mem_filter.mpr ⟨List.mem_range.mpr hn, by rw [Bool.not_eq_true', ← Bool.not_eq_true]; exact fun z => hi (List.contains_iff_mem.mp z)⟩)]
    · rw [List.getElem?_eq_none (by rw [wipe_length]; omega), List.getElem?_eq_none (by rw [wipe_length]; omega)]
section
variable {K : PySem.W.Frag} {S : Addr → Prop} {AA : List Addr} {H : Hp}
theorem RelA.forget {xs : List (Option V)} {os : List O} (r : RelA K S AA H xs os) (i : Nat) (y : Option V) : ∃ AA', RelA K S AA' H (xs.set i y) (os.set i .top) ∧ ∀ a ∈ AA', a ∈ AA := by
  by_cases hi : i < os.length
  · obtain ⟨x, A1, A', A2, e1, e2, h3, h4⟩ := r.rp.set (i := i) (o := os[i]) (List.getElem?_eq_getElem hi)
    have q := h4 y .top [] .top
    have sub : ∀ a ∈ A1 ++ [] ++ A2, a ∈ AA := fun a ha => by
      rw [e1]
      simp only [List.mem_append, List.not_mem_nil, or_false, false_or] at ha ⊢
      rcases ha with ha | ha
      · exact .inl (.inl ha)
      · exact .inr ha
    refine ⟨_, ⟨RpOs.pure (Keep.here fun a z => z.imp_right (sub a)) (Same.refl H) _ q, ?_, fun a ha => r.ns a (sub a ha), r.st⟩, sub⟩
    have nd := r.nd
    rw [e1] at nd
    rw [List.append_nil]
    obtain ⟨n1, n2, n3⟩ := List.nodup_append.mp nd
    obtain ⟨m1, m2, m3⟩ := List.nodup_append.mp n1
    exact List.nodup_append.mpr ⟨m1, n2, fun a ha b hb => n3 a (List.mem_append_left _ ha) b hb⟩
  · have hx : xs.length ≤ i := by
      have := r.len
      omega
    rw [List.set_eq_of_length_le hx, List.set_eq_of_length_le (Nat.le_of_not_lt hi)]
    exact ⟨AA, r, fun _ h => h⟩
theorem RelA.wiped {os : List O} {σ : L2.St} (r : RelA K S AA H σ os) : ∀ (vs : List Nat), ∃ AA', RelA K S AA' H (wipe σ vs) (wipeE os vs) ∧ ∀ a ∈ AA', a ∈ AA
  | [] => ⟨AA, r, fun _ h => h⟩
  | v :: vs => by
    obtain ⟨A1, r1, s1⟩ := r.wiped vs
    obtain ⟨A2, r2, s2⟩ := r1.forget v none
    exact ⟨A2, r2, fun a ha => s1 a (s2 a ha)⟩
theorem RpOs.tops_any {B : Addr → Prop} : ∀ {os : List O} {xs ys : List (Option V)} {A : List Addr}, RpOs K H B xs os A → ys.length = xs.length → (∀ i : Nat, os[i]? = some .top ∨ ys[i]? = xs[i]?) → RpOs K H B ys os A
  | [], _, ys, _, h, hl, _ => by
    cases h
    have : ys = [] := List.length_eq_zero_iff.mp hl
    subst this
    exact .nil
  | o :: os, _, ys, _, h, hl, hv => by
    cases h with
    | cons h1 h2 =>
      cases ys with
      | nil => cases hl
      | cons y ys =>
        have q := RpOs.tops_any (ys := ys) h2 (by simpa using hl) fun i => by simpa using hv (i + 1)
        rcases hv 0 with e | e
        · have e' : o = .top := by simpa using e
          subst e'
          cases h1
          exact .cons .top q
        · have e' : y = _ := Option.some.inj (by simpa using e)
          subst e'
          exact .cons h1 q
theorem RelA.unwiped {σ : L2.St} {os : List O} {vs : List Nat} (r : RelA K S AA H (wipe σ vs) os) (ht : ∀ v ∈ vs, os[v]? = none ∨ os[v]? = some .top) : RelA K S AA H σ os := by
  refine ⟨r.rp.tops_any (wipe_length σ vs).symm fun i => ?_, r.nd, r.ns, r.st⟩
  by_cases hi : i ∈ vs
  · rcases ht i hi with z | z
    · refine .inr ?_
      have := r.len
      rw [List.getElem?_eq_none_iff] at z
      rw [wipe_length] at this
      rw [List.getElem?_eq_none (by omega), List.getElem?_eq_none (by rw [wipe_length]; omega)]
    · exact .inl z
  · exact .inr (wipe_get hi).symm
theorem wipeE_len (ρ : Env) : ∀ vs : List Nat, (wipeE ρ vs).length = ρ.length
  | [] => rfl
  | v :: vs => by show ((wipeE ρ vs).set v .top).length = _; rw [List.length_set, wipeE_len ρ vs]
theorem wipeE_top (ρ : Env) : ∀ {vs : List Nat} {v : Nat}, v ∈ vs → (wipeE ρ vs)[v]? = none ∨ (wipeE ρ vs)[v]? = some .top
  | u :: vs, v, h => by
    show ((wipeE ρ vs).set u .top)[v]? = _ ∨ ((wipeE ρ vs).set u .top)[v]? = _
    by_cases e : u = v
    · subst e
      by_cases hl : u < (wipeE ρ vs).length
      · rw [List.getElem?_set_self hl]; exact .inr rfl
      · exact .inl (by rw [List.getElem?_eq_none]; rw [List.length_set]; omega)
    · rw [List.getElem?_set_ne e]
      rcases List.mem_cons.mp h with z | z
      · exact absurd z.symm e
      · exact wipeE_top ρ z
/-- the list grows -/
theorem RelA.appendTo {D0 : Addr} {acc : List V} {y : V} {ds : List D} {d : D} {xs : List (Option V)} {os : List O} (r : RelA K S AA H (some (.ref D0) :: xs) (.ow .lst ds :: os)) (h : H D0 = some (.lst acc)) (hy : RpS K H (fun a => S a ∨ a ∈ AA) y d) :
    RelA K S AA (upd H D0 (.lst (acc ++ [y]))) (some (.ref D0) :: xs) (.ow .lst (ds ++ [d]) :: os.map kill) ∧ Ext AA H AA (upd H D0 (.lst (acc ++ [y]))) := by
  have h0 := r.rp
  have nd := r.nd
  have ns := r.ns
  have st := r.st
  generalize hB : (fun a => S a ∨ a ∈ AA) = B at h0 hy
  cases h0 with
  | @cons _ _ _ _ A0 A1 h1 h2 =>
    cases h1 with
    | ow c1 c2 c3 =>
      have ec := c2
      rw [h] at c1
      cases c1
      cases ec
      subst hB
      have k : Keep H (upd H D0 (.lst (acc ++ [y]))) (fun a => S a ∨ a ∈ [D0] ++ A1) (fun a => S a ∨ a ∈ [D0] ++ A1) := by
        intro a u nb e
        refine ⟨nb, u, ?_, .inl rfl⟩
        rw [upd_ne (fun z => nb (.inr (by rw [z]; exact List.mem_cons_self)))]
        exact e
      have h3 : RpSs K (upd H D0 (.lst (acc ++ [y]))) (fun a => S a ∨ a ∈ [D0] ++ A1) (acc ++ [y]) (ds ++ [d]) := by
        have g : ∀ {vs : List V} {es : List D}, RpSs K H (fun a => S a ∨ a ∈ [D0] ++ A1) vs es → RpSs K (upd H D0 (.lst (acc ++ [y]))) (fun a => S a ∨ a ∈ [D0] ++ A1) (vs ++ [y]) (es ++ [d]) := by
          intro vs es q
          induction es generalizing vs with
          | nil => cases q; exact .cons (hy.keep k) .nil
          | cons e es ih =>
            cases q with
            | cons q1 q2 => exact .cons (q1.keep k) (ih q2)
        exact g c3
      have nD : D0 ∉ A1 := (List.nodup_cons.mp nd).1
      refine ⟨⟨RpOs.cons (A := [D0]) (.ow upd_same rfl h3) ?_, nd, ns, fun a ha => ?_⟩, fun a u e => ?_, fun a ha => .inr ha⟩
      · exact h2.killed k os fun a ha => upd_ne fun z => nD (z ▸ ha)
      · obtain ⟨u, e⟩ := st a ha
        by_cases z : a = D0
        · rw [z]; exact ⟨_, upd_same⟩
        · exact ⟨u, by rw [upd_ne z]; exact e⟩
      · by_cases z : a = D0
        · rw [z]
          exact ⟨_, upd_same, fun n => absurd List.mem_cons_self n⟩
        · exact ⟨u, by rw [upd_ne z]; exact e, fun _ => rfl⟩
end
section
variable {K : PySem.W.Frag} {S : Addr → Prop} {AA : List Addr} {H : Hp}
theorem RelA.swap {x y : Option V} {o p : O} {xs : List (Option V)} {os : List O} (r : RelA K S AA H (x :: y :: xs) (o :: p :: os)) : ∃ AA', RelA K S AA' H (y :: x :: xs) (p :: o :: os) ∧ ∀ a, a ∈ AA' → a ∈ AA := by
  have h0 := r.rp
  have nd := r.nd
  have ns := r.ns
  generalize hB : (fun a => S a ∨ a ∈ AA) = B at h0
  cases h0 with
  | @cons _ _ _ _ A1 A2 c1 c2 =>
    cases c2 with
    | @cons _ _ _ _ A3 A4 c2 c3 =>
      subst hB
      have sub : ∀ a, a ∈ A3 ++ (A1 ++ A4) ↔ a ∈ A1 ++ (A3 ++ A4) := fun a => by
        simp only [List.mem_append]
        constructor
        · rintro (z | z | z)
          · exact .inr (.inl z)
          · exact .inl z
          · exact .inr (.inr z)
        · rintro (z | z | z)
          · exact .inr (.inl z)
          · exact .inl z
          · exact .inr (.inr z)
      refine ⟨A3 ++ (A1 ++ A4), ⟨(RpOs.cons c2 (RpOs.cons c1 c3)).congr fun a => ?_, ?_, fun a ha => ns a ((sub a).mp ha), r.st⟩, fun a ha => (sub a).mp ha⟩
      · rw [sub a]
      · exact (List.perm_append_comm_assoc A1 A3 A4).nodup nd
theorem RelA.wipedU {pre : List (Option V)} {up os : List O} {σ : L2.St} (r : RelA K S AA H (pre ++ σ) (up ++ os)) (hl : pre.length = up.length) : ∀ (vs : List Nat), ∃ AA', RelA K S AA' H (pre ++ wipe σ vs) (up ++ wipeE os vs) ∧ ∀ a ∈ AA', a ∈ AA
  | [] => ⟨AA, r, fun _ h => h⟩
  | v :: vs => by
    obtain ⟨A1, r1, s1⟩ := r.wipedU hl vs
    obtain ⟨A2, r2, s2⟩ := r1.forget (pre.length + v) none
    rw [List.set_append_right _ _ (Nat.le_add_right _ _), hl, List.set_append_right _ _ (Nat.le_add_right _ _), Nat.add_sub_cancel_left] at r2
    exact ⟨A2, r2, fun a ha => s1 a (s2 a ha)⟩
end
theorem noLink {K : PySem.W.Frag} {S : Addr → Prop} {AA : List Addr} {H : Hp} {σ : L2.St} : LinkE K S AA H (fun _ _ _ _ => False) σ (fun _ _ => False) := fun _ _ _ _ _ _ _ _ _ h => h
theorem snd_lc {K : PySem.W.Frag} {W : WX} {pt pe : Bool} {ti : TI} {ri : VI} {tg : TG} {g : VG} {tt : TT} {rt : VT} {te : TE} {re : VE} {vs : List Nat} (hi : SndI K W ti ri)
    (hg : ∀ (S : Addr → Prop) (AA : List Addr) (H : Hp) (σ : L2.St) (ρ : Env) (v : V) (o : O) (k : Env → Prop) (Q : L2.St → Hp → Prop), RelA K S AA H (some v :: σ) (o :: ρ) →
      (∀ σ' H' ρ' AA', k ρ' → StOk (othersOf σ.length vs) σ σ' → RelA K S AA' H' σ' ρ' → Ext AA H AA' H' → Q σ' H') → g o ρ k → tg v σ H Q)
    (ht : SndT K (fun _ _ _ _ => False) pt tt rt) (he : SndE K (fun _ _ _ _ => False) pe te re) : SndE K W false (tLc ti tg tt te vs) (vLc ri g rt re vs) := by
  intro S AA H σ ρ φ ε Q r l hQ h
  refine hi S AA H σ ρ _ ε _ r l (fun J H1 ds ρ1 A1 h1 r1 x1 it => fun D0 hD => ?_) h
  -- the new list, ahead of the slots
  obtain ⟨rn, xn, _⟩ := RelA.new (l := .lst) (vs := []) (ds := []) r1 hD rfl .nil
  obtain ⟨A2, r2, s2⟩ := RelA.wipedU (pre := [some (.ref D0)]) (up := [.ow .lst []]) (σ := σ) (os := ρ1) rn rfl vs
  have x2 : Ext A1 H1 A2 (upd H1 D0 (.lst [])) := xn.sub s2
  refine ⟨fun i m H' => m = ds.length - i ∧ i ≤ ds.length ∧ ∃ acc ρ' AA', RelA K S AA' H' (some (.ref D0) :: wipe σ vs) (.ow .lst acc :: wipeE ρ' vs) ∧ Ext A1 H1 AA' H' ∧ vLcL g rt re vs (ds.drop i) acc ρ' (fun acc ρ2 => φ (.ow .lst acc) (wipeE ρ2 vs)) (fun _ _ => False),
    ⟨ds.length, by omega, by omega, [], _, A2, r2, x2, h1⟩, ?_⟩
  rintro i m H3 ⟨rfl, hi, acc, ρ3, A3, r3, x3, h3⟩
  obtain ⟨hgo, hstop⟩ := it H3 A3 _ _ r3 x3
  by_cases hlt : i < ds.length
  · have ed : ds[i]? = some ds[i] := List.getElem?_eq_getElem hlt
    have e2 : ds.drop i = ds[i] :: ds.drop (i + 1) := List.drop_eq_getElem_cons hlt
    rw [e2] at h3
    obtain ⟨go, step⟩ := hgo i _ ed
    refine .inr ⟨go, fun H' => ∃ acc' ρ' AA', RelA K S AA' H' (some (.ref D0) :: wipe σ vs) (.ow .lst acc' :: wipeE ρ' vs) ∧ Ext A1 H1 AA' H' ∧ vLcL g rt re vs (ds.drop (i + 1)) acc' ρ' (fun acc ρ2 => φ (.ow .lst acc) (wipeE ρ2 vs)) (fun _ _ => False),
      fun H' ⟨acc', ρ', AA', q1, q2, q3⟩ => ⟨ds.length - (i + 1), by omega, rfl, by omega, acc', ρ', AA', q1, q2, q3⟩, fun y H4 hy => ?_⟩
    obtain ⟨r4, x4⟩ := step y H4 hy
    obtain ⟨A5, r5, s5⟩ := r4.swap
    obtain ⟨T, A, eT, r6, J⟩ := RelA.under (ts := [some (.ref D0)]) (us := [.ow .lst acc]) (xs := some y :: wipe σ vs) (os := .sh ds[i] :: wipeE ρ3 vs) r5 rfl false
    subst eT
    have X5 : Ext A1 H1 (T ++ A) H4 := x3.trans (x4.sub s5)
    refine hg _ A H4 (wipe σ vs) (wipeE ρ3 vs) y _ _ _ r6 (fun σ7 H7 ρ7 A7 h7 so7 r7 x7 => ?_) h3
    rw [wipe_length] at so7
    have w7 : wipe σ7 vs = wipe σ vs := wipe_eq so7
    refine ⟨w7, ?_⟩
    have turn : ∀ (acc' : List D) (H' : Hp) (ρ' : Env) (AA' : List Addr), RelA K S AA' H' (some (.ref D0) :: σ7) (.ow .lst acc' :: ρ') → Ext (T ++ A) H4 AA' H' → vLcL g rt re vs (ds.drop (i + 1)) acc' ρ' (fun acc ρ2 => φ (.ow .lst acc) (wipeE ρ2 vs)) (fun _ _ => False) →
        ∃ acc' ρ' AA', RelA K S AA' H' (some (.ref D0) :: wipe σ vs) (.ow .lst acc' :: wipeE ρ' vs) ∧ Ext A1 H1 AA' H' ∧ vLcL g rt re vs (ds.drop (i + 1)) acc' ρ' (fun acc ρ2 => φ (.ow .lst acc) (wipeE ρ2 vs)) (fun _ _ => False) := by
      intro acc' H' ρ' AA' r' x' h'
      obtain ⟨A9, r9, s9⟩ := RelA.wipedU (pre := [some (.ref D0)]) (up := [.ow .lst acc']) (σ := σ7) (os := ρ') r' rfl vs
      rw [w7] at r9
      exact ⟨acc', ρ', A9, r9, (X5.trans x').sub s9, h'⟩
    refine ht _ A7 H7 σ7 ρ7 _ _ _ r7 noLink (fun b H8 ρ8 A8 h8 r8 x8 p8 => ?_) h7
    cases b with
    | false =>
      rw [if_neg Bool.false_ne_true] at h8 ⊢
      obtain ⟨q1, q2⟩ := J A8 H8 σ7 ρ8 (x7.trans x8) r8 (fun e => by cases e)
      exact turn acc H8 ρ8 _ q1 q2 h8
    | true =>
      rw [if_pos rfl] at h8 ⊢
      refine he _ A8 H8 σ7 ρ8 _ _ _ r8 noLink (fun z H9 o9 ρ9 A9 h9 r9 x9 p9 => ?_) h8
      obtain ⟨q1, q2⟩ := J A9 H9 (some z :: σ7) (o9 :: ρ9) ((x7.trans x8).trans x9) r9 (fun e => by cases e)
      obtain ⟨x, ex, hz, h9⟩ := frD_of h9
      obtain ⟨A10, r10, s10⟩ := RelA.swap q1
      obtain ⟨A11, r11, hx, s11⟩ := r10.fz1 ex
      obtain ⟨vv, accV, A', e1, hDl, hls⟩ : ∃ (vv : Unit) (accV : List V) (A' : Unit), True ∧ H9 D0 = some (.lst accV) ∧ RpSs K H9 (fun a => S a ∨ a ∈ A11) accV acc := by
        obtain ⟨y2, A12, f1, f2⟩ := r11.get (i := 0) rfl
        cases f1
        cases f2 with
        | ow c1 c2 c3 =>
          cases c2
          exact ⟨(), _, (), trivial, c1, c3⟩
      refine ⟨accV, hDl, by rw [hls.len]; exact hz, ?_⟩
      obtain ⟨r13, x13⟩ := r11.appendTo hDl hx
      exact turn (acc ++ [x]) _ (ρ9.map kill) A11 r13 (q2.trans ((Ext.refl.sub fun a ha => s10 a (s11 a ha)).trans x13)) h9
  · have e : i = ds.length := by omega
    subst e
    rw [List.drop_length] at h3
    refine .inl ⟨hstop, ?_⟩
    have r4 : RelA K S A3 H3 (wipe (some (.ref D0) :: σ) (vs.map (· + 1))) (.ow .lst acc :: wipeE ρ3 vs) := by
      have ew : ∀ (vs : List Nat), wipe (some (V.ref D0) :: σ) (vs.map (· + 1)) = some (.ref D0) :: wipe σ vs := by
        intro vs
        induction vs with
        | nil => rfl
        | cons v vs ih =>
          show (wipe (some (V.ref D0) :: σ) (vs.map (· + 1))).set (v + 1) none = _
          rw [ih]
          rfl
      rw [ew]
      exact r3
    have r5 := r4.unwiped fun v hv => by
      obtain ⟨u, hu, rfl⟩ := List.mem_map.mp hv
      exact wipeE_top ρ3 hu
    exact hQ _ H3 _ _ A3 h3 r5 (x1.trans x3) (fun e => by cases e)

def vYes : VT := fun ρ φ _ => φ true ρ
theorem snd_yes {K : PySem.W.Frag} {W : WX} : SndT K W true tYes vYes := by
  intro S AA H σ ρ φ ε Q r l hQ h
  exact hQ true H ρ AA h r Ext.refl fun _ => ⟨rfl, Same.refl H⟩
section
variable {X : Cx} {W : WX}
/-- the tests of a comprehension -/
structure Cv (X : Cx) (p : Bool) (ifs : List Expr) (r : VT) : Prop where
  ex : ∃ t, PTs X ifs t ∧ SndT X.K (fun _ _ _ _ => False) p t r
theorem cv_nil : Cv X true [] vYes := ⟨_, pts_nil, snd_yes⟩
theorem cv_one {p : Bool} {c : Expr} {r : VT} (h : Tv X (fun _ _ _ _ => False) p c r) : Cv X p [c] r := by
  obtain ⟨t, ht, st⟩ := h.ex
  exact ⟨t, pts_one ht, st⟩
def owns (own : List (Str × Nat)) (io : List Nat) : Prop := ∀ v ∈ own.map (·.2), io.contains v = false
theorem owns_others (own : List (Str × Nat)) (n : Nat) : owns own (othersOf n (own.map (·.2))) := by
  intro v hv
  rw [← Bool.not_eq_true]
  intro h
  have h2 := (List.mem_filter.mp (List.contains_iff_mem.mp h)).2
  rw [Bool.not_eq_true', ← Bool.not_eq_true] at h2
  exact h2 (List.contains_iff_mem.mpr hv)
/-- the parts in the block, whatever its start -/
structure Blk (X : Cx) (scope : Scope) (own : List (Str × Nat)) (elt tg : Expr) (ifs : List Expr) (g : VG) (pt : Bool) (rt : VT) (pe : Bool) (re : VE) : Prop where
  g : ∀ (io : List Nat) (s : Shared) (H : Hp) (C : Addr) (cl : List (Str × Addr)) (fp : List Addr), owns own io → Gv (X.blk s H scope (compEnvC scope cl C X.env) fp) io tg g
  t : ∀ (s : Shared) (H : Hp) (C : Addr) (cl : List (Str × Addr)) (fp : List Addr), Cv (X.blk s H scope (compEnvC scope cl C X.env) fp) pt ifs rt
  e : ∀ (s : Shared) (H : Hp) (C : Addr) (cl : List (Str × Addr)) (fp : List Addr), Ev (X.blk s H scope (compEnvC scope cl C X.env) fp) (fun _ _ _ _ => False) pe elt re
section
variable {scope : Scope} {own : List (Str × Nat)} {elt tg : Expr} {ifs : List Expr} {g : VG} {pt pe : Bool} {rt : VT} {re : VE} {pos : Pos} {iter : Expr} {ri : VI}
/-- one reading for every start -/
theorem Blk.all (B : Blk X scope own elt tg ifs g pt rt pe re) : ∃ (gA : TG) (tA : TT) (eA : TE), (∀ (s : Shared) (H : Hp) (C : Addr) (cl : List (Str × Addr)) (fp : List Addr), PG (X.blk s H scope (compEnvC scope cl C X.env) fp) tg gA) ∧
    (∀ (s : Shared) (H : Hp) (C : Addr) (cl : List (Str × Addr)) (fp : List Addr), PTs (X.blk s H scope (compEnvC scope cl C X.env) fp) ifs tA) ∧ (∀ (s : Shared) (H : Hp) (C : Addr) (cl : List (Str × Addr)) (fp : List Addr), PE (X.blk s H scope (compEnvC scope cl C X.env) fp) elt eA) ∧
    (∀ (S : Addr → Prop) (AA : List Addr) (H : Hp) (σ : L2.St) (ρ : Env) (v : V) (o : O) (k : Env → Prop) (Q : L2.St → Hp → Prop), RelA X.K S AA H (some v :: σ) (o :: ρ) →
      (∀ σ' H' ρ' AA', k ρ' → StOk (othersOf σ.length (own.map (·.2))) σ σ' → RelA X.K S AA' H' σ' ρ' → Ext AA H AA' H' → Q σ' H') → g o ρ k → gA v σ H Q) ∧
    SndT X.K (fun _ _ _ _ => False) pt tA rt ∧ SndE X.K (fun _ _ _ _ => False) pe eA re := by
  refine ⟨fun v σ H Q => ∀ s H0 C cl fp, (B.g (othersOf σ.length (own.map (·.2))) s H0 C cl fp (owns_others own _)).ex.choose v σ H Q, fun σ H Q => ∀ s H0 C cl fp, (B.t s H0 C cl fp).ex.choose σ H Q, fun σ H Q => ∀ s H0 C cl fp, (B.e s H0 C cl fp).ex.choose σ H Q, ?_, ?_, ?_, ?_, ?_, ?_⟩
  · intro s H0 C cl fp
    exact ⟨fun pins s' σ H v u Q I r h => ((B.g (othersOf σ.length (own.map (·.2))) s H0 C cl fp (owns_others own _)).ex.choose_spec.1).run pins s' σ H v u Q I r (h s H0 C cl fp)⟩
  · intro s H0 C cl fp
    exact ⟨fun pins s' σ H Q I h => ((B.t s H0 C cl fp).ex.choose_spec.1).run pins s' σ H Q I (h s H0 C cl fp)⟩
  · intro s H0 C cl fp
    exact ⟨fun pins s' σ H Q I h => ((B.e s H0 C cl fp).ex.choose_spec.1).run pins s' σ H Q I (h s H0 C cl fp)⟩
  · intro S AA H σ ρ v o k Q r hQ h s H0 C cl fp
    exact (B.g (othersOf σ.length (own.map (·.2))) s H0 C cl fp (owns_others own _)).ex.choose_spec.2 S AA H σ ρ v o k Q r hQ h
  · intro S AA H σ ρ φ ε Q r l hQ h s H0 C cl fp
    exact (B.t s H0 C cl fp).ex.choose_spec.2 S AA H σ ρ φ ε Q r l hQ h
  · intro S AA H σ ρ φ ε Q r l hQ h s H0 C cl fp
    exact (B.e s H0 C cl fp).ex.choose_spec.2 S AA H σ ρ φ ε Q r l hQ h
theorem ev_lc (hc : X.calm = true) (hN : X.N.Nodup) (hi : Iv X W tg iter ri) (ok : BlkOk X.N X.env.scope scope own) (B : Blk X scope own elt tg ifs g pt rt pe re) (hs : ∀ x, foldedSetIterable iter X.env x = pure x := by intro _; rfl) :
    Ev X W false (.ListComp elt [⟨tg, iter, ifs, 0⟩] scope pos) (vLc ri g rt re (own.map (·.2))) := by
  obtain ⟨ti, hti, si⟩ := hi.ex
  obtain ⟨gA, tA, eA, h1, h2, h3, s1, s2, s3⟩ := B.all
  exact ⟨_, pe_lc hc hN hti ok h1 h2 h3 hs, snd_lc si s1 s2 s3⟩
theorem sv_setLc {io : List Nat} {i : Nat} {y : Str} {py spos : Pos} (hc : X.calm = true) (hN : X.N.Nodup) (hi : Iv X W tg iter ri) (ok : BlkOk X.N X.env.scope scope own) (B : Blk X scope own elt tg ifs g pt rt pe re)
    (hsw : swapsWith (.ListComp elt [⟨tg, iter, ifs, 0⟩] scope pos) (some (.Name y py)) spos.line X.env = pure true) (hy : X.N[i]? = some y := by rfl) (hyl : X.env.scope.names.lookup y = some .local := by rfl) (hio : io.contains i = false := by rfl)
    (hs : ∀ x, foldedSetIterable iter X.env x = pure x := by intro _; rfl) :
    Sv X W io (.Assign [.Name y py] (.ListComp elt [⟨tg, iter, ifs, 0⟩] scope pos) spos) (vSet i (vLc ri g rt re (own.map (·.2)))) := by
  obtain ⟨ti, hti, si⟩ := hi.ex
  obtain ⟨gA, tA, eA, h1, h2, h3, s1, s2, s3⟩ := B.all
  exact ⟨_, ps_setLc hc hN hy hyl hsw hti ok h1 h2 h3 hs, snd_set hio (snd_lc si s1 s2 s3)⟩
end
end
end VL

namespace VL
open PySem PySem.Spec L2

/-! ### data as PyData -/
mutual
def toPy : D → Option PyData
  | .sc .non => some .none
  | .sc (.bl b) => some (.bool b)
  | .sc (.int i) => some (.int i)
  | .sc (.str x) => some (.str x)
  | .sc _ => none
  | .nd .lst ds => match toPyL ds with
    | some ps => some (.list ps)
    | none => none
  | .nd .fzl ds => match toPyL ds with
    | some ps => some (.list ps)
    | none => none
  | .nd .tup ds => match toPyL ds with
    | some ps => some (.tuple ps)
    | none => none
  | .nd _ _ => none
def toPyL : List D → Option (List PyData)
  | [] => some []
  | d :: ds => match toPy d, toPyL ds with
    | some p, some ps => some (p :: ps)
    | _, _ => none
end
section
variable {K : PySem.W.Frag} {H : Hp} {B : Addr → Prop}
mutual
theorem dp_of : ∀ (d : D) {v : V} {p : PyData}, RpS K H B v d → toPy d = some p → Dp K H v p
  | .sc s, _, _, h, e => by
    cases h
    cases s with
    | non => cases e; exact .non
    | bl b => cases e; exact .bl b
    | int i => cases e; exact .int i
    | str x => cases e; exact .str x
    | adr a => cases e
    | ty n => cases e
  | .nd l ds, _, p, h, e => by
    cases h with
    | nd h1 h2 =>
      cases l with
      | lst =>
        have e0 : (match toPyL ds with | some ps => some (PyData.list ps) | none => none) = some p := e
        cases e1 : toPyL ds with
        | none => rw [e1] at e0; cases e0
        | some ps => rw [e1] at e0; cases e0; exact .lst h1.seqL (dpAll_of ds h2 e1)
      | fzl =>
        have e0 : (match toPyL ds with | some ps => some (PyData.list ps) | none => none) = some p := e
        cases e1 : toPyL ds with
        | none => rw [e1] at e0; cases e0
        | some ps => rw [e1] at e0; cases e0; exact .lst h1.seqF (dpAll_of ds h2 e1)
      | tup =>
        have e0 : (match toPyL ds with | some ps => some (PyData.tuple ps) | none => none) = some p := e
        cases e1 : toPyL ds with
        | none => rw [e1] at e0; cases e0
        | some ps => rw [e1] at e0; cases e0; exact .tup h1.seqT (dpAll_of ds h2 e1)
      | dk ks => cases e
      | dt ks => cases e
      | obj C fs => cases e
      | exc _ _ _ _ => cases e
theorem dpAll_of : ∀ (ds : List D) {vs : List V} {ps : List PyData}, RpSs K H B vs ds → toPyL ds = some ps → DpAll K H vs ps
  | [], _, _, h, e => by
    cases h
    cases e
    exact .nil
  | d :: ds, _, ps, h, e => by
    cases h with
    | cons h1 h2 =>
      have e0 : (match toPy d, toPyL ds with | some p, some ps => some (p :: ps) | _, _ => none) = some ps := e
      cases e1 : toPy d with
      | none => rw [e1] at e0; cases e0
      | some p =>
        cases e2 : toPyL ds with
        | none => rw [e1, e2] at e0; cases e0
        | some qs => rw [e1, e2] at e0; cases e0; exact .cons (dp_of d h1 e1) (dpAll_of ds h2 e2)
end
theorem RpSs.app {vs : List V} {ds : List D} {ws : List V} {es : List D} (h : RpSs K H B vs ds) (h2 : RpSs K H B ws es) : RpSs K H B (vs ++ ws) (ds ++ es) := by
  induction ds generalizing vs with
  | nil => cases h; exact h2
  | cons d ds ih =>
    cases h with
    | cons q1 q2 => exact .cons q1 (ih q2)
end
section
variable {K : PySem.W.Frag} {S : Addr → Prop} {AA : List Addr} {H : Hp}
/-- behind the temps a new cell -/
theorem RelA.resO {ts xs : List (Option V)} {us os : List O} {p : Addr} {h : HO} {l : Lab} {vs : List V} {ds : List D} (r : RelA K S AA H (ts ++ xs) (us ++ os)) (hl : ts.length = us.length) (hp : H p = none) (hc : cellIs l vs h) (hs : RpSs K H (fun a => S a ∨ a ∈ AA) vs ds) :
    ∃ AA', RelA K S AA' (upd H p h) (some (.ref p) :: xs) (.ow l ds :: os) ∧ Ext AA H AA' (upd H p h) ∧ Same H (upd H p h) := by
  obtain ⟨A1, r1, s1⟩ := r.dropN hl
  obtain ⟨q1, q2, q3⟩ := RelA.new r1 hp hc (hs.sub s1)
  exact ⟨_, q1, (Ext.refl.sub s1).trans q2, q3⟩
theorem RelA.resT {ts xs : List (Option V)} {us os : List O} {p : Addr} {h : HO} {l : Lab} {vs : List V} {ds : List D} (r : RelA K S AA H (ts ++ xs) (us ++ os)) (hl : ts.length = us.length) (hp : H p = none) (hc : cellIs l vs h) (hs : RpSs K H (fun a => S a ∨ a ∈ AA) vs ds) :
    ∃ AA', RelA K S AA' (upd H p h) (some (.ref p) :: xs) (.sh (.nd l ds) :: os) ∧ Ext AA H AA' (upd H p h) ∧ Same H (upd H p h) := by
  obtain ⟨A1, r1, s1⟩ := r.dropN hl
  obtain ⟨q1, q2, q3⟩ := RelA.newS r1 hp hc (hs.sub s1)
  exact ⟨_, q1, (Ext.refl.sub s1).trans q2, q3⟩
theorem RelA.resS (s : Sc) {ts xs : List (Option V)} {us os : List O} (r : RelA K S AA H (ts ++ xs) (us ++ os)) (hl : ts.length = us.length) : ∃ AA', RelA K S AA' H (some s.v :: xs) (.sh (.sc s) :: os) ∧ Ext AA H AA' H ∧ Same H H := by
  obtain ⟨A1, r1, s1⟩ := r.dropN hl
  exact ⟨A1, r1.sc s, Ext.refl.sub s1, Same.refl H⟩
end
/-- two values by their data (ints, strs): scalars out -/
def Sr2 (K : PySem.W.Frag) (rd : R2) (g : O → O → (O → Prop) → Prop) : Prop := ∀ (S : Addr → Prop) (AA : List Addr) (H : Hp) (x y : V) (a b : O) (xs : List (Option V)) (us : List O) (k : O → Prop) (Q : L2.VK),
  RelA K S AA H (some x :: some y :: xs) (a :: b :: us) → (∀ v H' o, k o → (∃ AA', RelA K S AA' H' (some v :: xs) (o :: us) ∧ Ext AA H AA' H' ∧ Same H H') → Q v H') → g a b k → rd x y H Q
def gn2 (g : O → O → (O → Prop) → Prop) : GN := fun os k => match os with
  | [a, b] => g a b k
  | _ => False
theorem Sr2.srv {K : PySem.W.Frag} {rd : R2} {g : O → O → (O → Prop) → Prop} (h : Sr2 K rd g) : Srv K (r2 rd) (gn2 g) := by
  intro S AA H vs os xs us k Q r hl hQ hg
  obtain ⟨a, b, rfl⟩ : ∃ a b, os = [a, b] := by
    rcases os with _ | ⟨a, _ | ⟨b, _ | ⟨c, os⟩⟩⟩
    · exact (show False from hg).elim
    · exact (show False from hg).elim
    · exact ⟨a, b, rfl⟩
    · exact (show False from hg).elim
  obtain ⟨x, y, rfl⟩ := len2 hl
  exact h S AA H x y a b xs us k Q r (fun v H' o hk ⟨AA', q1, q2, q3⟩ => hQ v H' o AA' hk q1 q2 q3) hg
def Sr1 (K : PySem.W.Frag) (rd : V → Hp → L2.VK → Prop) (g : O → (O → Prop) → Prop) : Prop := ∀ (S : Addr → Prop) (AA : List Addr) (H : Hp) (x : V) (a : O) (xs : List (Option V)) (us : List O) (k : O → Prop) (Q : L2.VK),
  RelA K S AA H (some x :: xs) (a :: us) → (∀ v H' o, k o → (∃ AA', RelA K S AA' H' (some v :: xs) (o :: us) ∧ Ext AA H AA' H' ∧ Same H H') → Q v H') → g a k → rd x H Q
def gn1 (g : O → (O → Prop) → Prop) : GN := fun os k => match os with
  | [a] => g a k
  | _ => False
theorem Sr1.srv {K : PySem.W.Frag} {rd : V → Hp → L2.VK → Prop} {g : O → (O → Prop) → Prop} (h : Sr1 K rd g) : Srv K (r1 rd) (gn1 g) := by
  intro S AA H vs os xs us k Q r hl hQ hg
  obtain ⟨a, rfl⟩ : ∃ a, os = [a] := by
    rcases os with _ | ⟨a, _ | ⟨b, os⟩⟩
    · exact (show False from hg).elim
    · exact ⟨a, rfl⟩
    · exact (show False from hg).elim
  obtain ⟨x, rfl⟩ := len1 hl
  exact h S AA H x a xs us k Q r (fun v H' o hk ⟨AA', q1, q2, q3⟩ => hQ v H' o AA' hk q1 q2 q3) hg

section
variable {K : PySem.W.Frag} {S : Addr → Prop} {AA : List Addr} {H : Hp}
theorem RpS.scv {B : Addr → Prop} {v : V} {s : Sc} (h : RpS K H B v (.sc s)) : v = s.v := by cases h; rfl
/-- the two temps' data -/
theorem RelA.two {x y : V} {a b : O} {d e : D} {xs : List (Option V)} {us : List O} (r : RelA K S AA H (some x :: some y :: xs) (a :: b :: us)) (h1 : view a = some d) (h2 : view b = some e) : RpS K H NB x d ∧ RpS K H NB y e := ⟨r.read1 h1, r.read2 h2⟩
end
/-! ### + -/
def gAdd (a b : O) (k : O → Prop) : Prop := vw a fun d => vw b fun e => match d, e with
  | .sc (.int i), .sc (.int j) => k (.sh (.sc (.int (i + j))))
  | .sc (.str x), .sc (.str y) => x.length + y.length ≤ sizeLine ∧ k (.sh (.sc (.str (x ++ y))))
  | .nd .lst _, .nd .lst _ => match kids a, kids b with
    | some (.lst, cs), some (.lst, ds) => cs.length + ds.length ≤ sizeLine ∧ k (.ow .lst (cs ++ ds))
    | _, _ => False
  | .nd .tup _, .nd .tup _ => match fz a, fz b with
    | some (.nd .tup cs), some (.nd .tup ds) => cs.length + ds.length ≤ sizeLine ∧ k (.sh (.nd .tup (cs ++ ds)))
    | _, _ => False
  | _, _ => False
def rAddU (K : PySem.W.Frag) : R2 := fun x y H Q => (rI0 (fun i j => .int (i + j)) x y H Q ∨ (∃ i j, x = .str i ∧ y = .str j ∧ i.length + j.length ≤ sizeLine ∧ Q (.str (i ++ j)) H)) ∨ (rCat x y H Q ∨ rCatA K x y H Q)
theorem sr_add {K : PySem.W.Frag} : Sr2 K (rAddU K) gAdd := by
  intro S AA H x y a b xs us k Q r hQ h
  obtain ⟨d, e1, h⟩ := vw_of h
  obtain ⟨e, e2, h⟩ := vw_of h
  obtain ⟨p1, p2⟩ := r.two e1 e2
  split at h
  · refine .inl (.inl ⟨_, _, p1.scv, p2.scv, hQ _ H _ h (RelA.resS (.int _) (ts := [_, _]) (us := [_, _]) r rfl)⟩)
  · refine .inl (.inr ⟨_, _, p1.scv, p2.scv, h.1, hQ _ H _ h.2 (RelA.resS (.str _) (ts := [_, _]) (us := [_, _]) r rfl)⟩)
  · split at h
    next cs ds k1 k2 =>
      obtain ⟨l, vs, ex, s1, c1⟩ := r.kidsAt (i := 0) rfl rfl k1
      obtain ⟨m, ws, ey, s2, c2⟩ := r.kidsAt (i := 1) rfl rfl k2
      refine .inr (.inl ⟨l, m, vs, ws, ex, ey, s1.lstAt, s2.lstAt, by rw [c1.len, c2.len]; exact h.1, fun p hp => ?_⟩)
      exact hQ _ _ _ h.2 (RelA.resO (ts := [_, _]) (us := [_, _]) r rfl hp rfl (c1.app c2))
    · exact h.elim
  · split at h
    next cs ds k1 k2 =>
      have hf : fzL [a, b] = some [.nd .tup cs, .nd .tup ds] := by
        show (match fz a with | some d => (match fzL [b] with | some ds => some (d :: ds) | none => none) | none => none) = _
        rw [k1]
        show (match (match fz b with | some d => (match fzL [] with | some ds => some (d :: ds) | none => none) | none => none) with | some ds => some (_ :: ds) | none => none) = _
        rw [k2]
        rfl
      obtain ⟨A1, r1, hs, s1⟩ := RelA.froze (vs := [x, y]) (us := [a, b]) r rfl hf
      cases hs with
      | cons q1 hs =>
        cases hs with
        | cons q2 hs =>
          have x1 : Ext AA H A1 H := Ext.refl.sub s1
          cases q1 with
          | @nd l _ vs _ s1 c1 =>
            cases q2 with
            | @nd m _ ws _ s2 c2 =>
              refine .inr (.inr ⟨l, m, vs, ws, rfl, rfl, s1.seqT, s2.seqT, by rw [c1.len, c2.len]; exact h.1, fun e => ?_, fun _ e => ?_, fun _ _ p hp => ?_⟩)
              · subst e
                cases c1
                exact hQ _ H _ h.2 ⟨A1, r1.push (.sh (.nd s2 c2)), x1, Same.refl H⟩
              · subst e
                cases c2
                rw [List.append_nil] at h
                exact hQ _ H _ h.2 ⟨A1, r1.push (.sh (.nd s1 c1)), x1, Same.refl H⟩
              · obtain ⟨q1, q2, q3⟩ := RelA.newS (l := .tup) r1 hp rfl (c1.app c2)
                exact hQ _ _ _ h.2 ⟨A1, q1, x1.trans q2, q3⟩
    · exact h.elim
  · exact h.elim
/-! ### - * // % ** -/
def gSub (a b : O) (k : O → Prop) : Prop := vw a fun d => vw b fun e => match d, e with
  | .sc (.int i), .sc (.int j) => k (.sh (.sc (.int (i - j))))
  | _, _ => False
theorem sr_sub {K : PySem.W.Frag} : Sr2 K (rI0 fun i j => .int (i - j)) gSub := by
  intro S AA H x y a b xs us k Q r hQ h
  obtain ⟨d, e1, h⟩ := vw_of h
  obtain ⟨e, e2, h⟩ := vw_of h
  obtain ⟨p1, p2⟩ := r.two e1 e2
  split at h
  · exact ⟨_, _, p1.scv, p2.scv, hQ _ H _ h (RelA.resS (.int _) (ts := [_, _]) (us := [_, _]) r rfl)⟩
  · exact h.elim
/-- ints under a condition -/
def gInt (C : Int → Int → Prop) (f : Int → Int → Int) (a b : O) (k : O → Prop) : Prop := vw a fun d => vw b fun e => match d, e with
  | .sc (.int i), .sc (.int j) => C i j ∧ k (.sh (.sc (.int (f i j))))
  | _, _ => False
theorem sr_int {K : PySem.W.Frag} {C : Int → Int → Prop} {f : Int → Int → Int} : Sr2 K (rI C fun i j => .int (f i j)) (gInt C f) := by
  intro S AA H x y a b xs us k Q r hQ h
  obtain ⟨d, e1, h⟩ := vw_of h
  obtain ⟨e, e2, h⟩ := vw_of h
  obtain ⟨p1, p2⟩ := r.two e1 e2
  split at h
  · exact ⟨_, _, p1.scv, p2.scv, h.1, hQ _ H _ h.2 (RelA.resS (.int _) (ts := [_, _]) (us := [_, _]) r rfl)⟩
  · exact h.elim
def CPowV (i j : Int) : Prop := 0 ≤ j ∧ Builtin.Int.intBits i * j.toNat ≤ 134217728
end VL

namespace VL
open PySem PySem.Spec L2

section
variable {X : Cx}
theorem op_powV : OpR X (binaryOp .Pow) (rI CPowV fun i j => .int (i ^ j.toNat)) := by
  intro pins s σ H x y v u Q I rx ry h
  obtain ⟨i, j, rfl, rfl, ⟨h0, h1⟩, q⟩ := h
  obtain ⟨t, rfl⟩ := rx
  obtain ⟨t', rfl⟩ := ry
  refine PyProof.Rows.pow_int h0 ?_ ⟨.int _, H, I.tok _, ⟨_, rfl⟩, q⟩
  have e : j = ((j.toNat : Nat) : Int) := (Int.toNat_of_nonneg h0).symm
  rw [e]
  have : ((Builtin.Int.intBits i * j.toNat : Nat) : Int) ≤ 134217728 := Int.ofNat_le.mpr h1
  rw [Int.natCast_mul] at this
  exact this
/-- x, n times -/
def repS (x : Str) (n : Nat) : Str := ⟨(List.replicate n x.cps.toList).flatten.toArray⟩
theorem foldl_app (x : Array Nat) : ∀ (n : Nat) (a : Array Nat), (List.replicate n x).foldl (· ++ ·) a = a ++ (List.replicate n x.toList).flatten.toArray
  | 0, a => by simp
  | n + 1, a => by
    rw [List.replicate_succ, List.foldl_cons, foldl_app x n, List.replicate_succ, List.flatten_cons, Array.append_assoc]
    congr 1
    apply Array.toList_inj.mp
    simp
theorem repS_len (x : Str) (n : Nat) : (repS x n).length = x.length * n := by
  show (List.replicate n x.cps.toList).flatten.toArray.size = x.cps.size * n
  rw [List.size_toArray, List.length_flatten, List.map_replicate, List.sum_replicate_nat, Array.length_toList, Nat.mul_comm]
theorem op_mulS : OpR X (binaryOp .Mult) (fun x y H Q => ∃ (z : Str) (n : Int), x = .str z ∧ y = .int n ∧ (-(2 ^ 63) ≤ n ∧ n < 2 ^ 63 ∧ z.length * n.toNat ≤ sizeLine) ∧ Q (.str (repS z n.toNat)) H) := by
  intro pins s σ H x y v u Q I rx ry h
  obtain ⟨z, n, rfl, rfl, ⟨h1, h2, h3⟩, q⟩ := h
  obtain ⟨t, rfl⟩ := rx
  obtain ⟨t', rfl⟩ := ry
  have hz : sizeLine = 16777216 := sizeLine_eq
  refine PySem.P.mul_str ?_ (fun hn _ => ?_) (fun hn _ => ?_) ?_
  · rw [Bool.or_eq_false_iff]
    exact ⟨decide_eq_false (by omega), decide_eq_false (by omega)⟩
  · have e : n = ((n.toNat : Nat) : Int) := by omega
    have hn' : 0 < n := by omega
    intro hc
    have : ((9223372036854775807 : Int) / n) < z.length := hc
    have h5 := (Int.ediv_lt_iff_lt_mul hn').mp this
    clear hc this
    have h6 : ((z.length * n.toNat : Nat) : Int) ≤ 16777216 := by
      have : z.length * n.toNat ≤ 16777216 := by rw [hz] at h3; exact h3
      exact Int.ofNat_le.mpr this
    rw [Int.natCast_mul, ← e] at h6
    exact absurd (Int.lt_of_lt_of_le h5 h6) (by decide)
  · unfold Builtin.Str.tooLong
    exact decide_eq_false (by omega)
  · split
    next hn =>
      have e : n.toNat = 0 := by omega
      have e2 : repS z n.toNat = Str.empty := by rw [e]; rfl
      rw [e2] at q
      exact ⟨by rw [← e2, repS_len]; omega, .str Str.empty, H, I.tok _, ⟨_, rfl⟩, q⟩
    next hn =>
      split
      next h4 =>
        have e2 : repS z n.toNat = z := by
          rw [Bool.or_eq_true] at h4
          rcases h4 with h4 | h4
          · have : n = 1 := by simpa using h4
            subst this
            show (⟨(List.replicate 1 z.cps.toList).flatten.toArray⟩ : Str) = z
            simp [List.replicate]
          · have h5 : z.cps = #[] := by
              have : z.length = 0 := by simpa using h4
              exact Array.eq_empty_of_size_eq_zero this
            obtain ⟨cps⟩ := z
            subst h5
            unfold repS
            congr 1
            simp
        rw [e2] at q
        exact ⟨.str z, H, I, ⟨_, rfl⟩, q⟩
      next h4 =>
        have e2 : (⟨(List.replicate n.toNat z.cps).foldl (· ++ ·) #[]⟩ : Str) = repS z n.toNat := by
          unfold repS
          rw [foldl_app]
          simp
        show (Made.str _).post _ _
        rw [e2]
        exact ⟨by rw [repS_len]; omega, .str _, H, I.tok _, ⟨_, rfl⟩, q⟩
end
def rMulU (K : PySem.W.Frag) : R2 := fun x y H Q => rI CMulX (fun i j => .int (i * j)) x y H Q ∨ ((∃ (z : Str) (n : Int), x = .str z ∧ y = .int n ∧ (-(2 ^ 63) ≤ n ∧ n < 2 ^ 63 ∧ z.length * n.toNat ≤ sizeLine) ∧ Q (.str (repS z n.toNat)) H) ∨ rRep x y H Q)
def gMul (a b : O) (k : O → Prop) : Prop := vw a fun d => vw b fun e => match d, e with
  | .sc (.int i), .sc (.int j) => Builtin.Int.intBits i + Builtin.Int.intBits j ≤ 134217728 ∧ k (.sh (.sc (.int (i * j))))
  | .sc (.str z), .sc (.int n) => (-(2 ^ 63) ≤ n ∧ n < 2 ^ 63 ∧ z.length * n.toNat ≤ sizeLine) ∧ k (.sh (.sc (.str (repS z n.toNat))))
  | .nd .lst _, .sc (.int n) => match kids a with
    | some (.lst, cs) => (-(2 ^ 63) ≤ n ∧ n < 2 ^ 63 ∧ cs.length * n.toNat ≤ sizeLine) ∧ k (.ow .lst (List.replicate n.toNat cs).flatten)
    | _ => False
  | _, _ => False
theorem RpSs.rep {K : PySem.W.Frag} {H : Hp} {B : Addr → Prop} {vs : List V} {ds : List D} (h : RpSs K H B vs ds) : ∀ n, RpSs K H B (List.replicate n vs).flatten (List.replicate n ds).flatten
  | 0 => .nil
  | n + 1 => by
    rw [List.replicate_succ, List.replicate_succ, List.flatten_cons, List.flatten_cons]
    exact h.app (h.rep n)
theorem sr_mul {K : PySem.W.Frag} : Sr2 K (rMulU K) gMul := by
  intro S AA H x y a b xs us k Q r hQ h
  obtain ⟨d, e1, h⟩ := vw_of h
  obtain ⟨e, e2, h⟩ := vw_of h
  obtain ⟨p1, p2⟩ := r.two e1 e2
  split at h
  · refine .inl ⟨_, _, p1.scv, p2.scv, ?_, hQ _ H _ h.2 (RelA.resS (.int _) (ts := [_, _]) (us := [_, _]) r rfl)⟩
    have := h.1
    unfold CMulX
    omega
  · exact .inr (.inl ⟨_, _, p1.scv, p2.scv, h.1, hQ _ H _ h.2 (RelA.resS (.str _) (ts := [_, _]) (us := [_, _]) r rfl)⟩)
  · split at h
    next cs k1 =>
      obtain ⟨l, vs, ex, s1, c1⟩ := r.kidsAt (i := 0) rfl rfl k1
      obtain ⟨⟨q1, q2, q3⟩, h⟩ := h
      refine .inr (.inr ⟨l, _, vs, ex, p2.scv, s1.lstAt, q1, q2, by rw [c1.len]; exact q3, fun p hp => ?_⟩)
      exact hQ _ _ _ h (RelA.resO (ts := [_, _]) (us := [_, _]) r rfl hp rfl (c1.rep _))
    · exact h.elim
  · exact h.elim
/-! ### comparisons -/
def gCmp (f : Int → Int → Bool) (a b : O) (k : O → Prop) : Prop := vw a fun d => vw b fun e => match d, e with
  | .sc (.int i), .sc (.int j) => k (.sh (.sc (.bl (f i j))))
  | _, _ => False
theorem sr_cmp {K : PySem.W.Frag} {f : Int → Int → Bool} : Sr2 K (rI0 fun i j => .bl (f i j)) (gCmp f) := by
  intro S AA H x y a b xs us k Q r hQ h
  obtain ⟨d, e1, h⟩ := vw_of h
  obtain ⟨e, e2, h⟩ := vw_of h
  obtain ⟨p1, p2⟩ := r.two e1 e2
  split at h
  · exact ⟨_, _, p1.scv, p2.scv, hQ _ H _ h (RelA.resS (.bl _) (ts := [_, _]) (us := [_, _]) r rfl)⟩
  · exact h.elim
def nb (neg b : Bool) : Bool := if neg then !b else b
def scFlat : Sc → Bool
  | .non => true
  | .bl _ => true
  | .int _ => true
  | .str _ => true
  | _ => false
theorem Sc.v_inj {s t : Sc} (h : s.v = t.v) : s = t := by
  cases s <;> cases t <;> first | rfl | (cases h; rfl) | cases h
/-- == by data -/
def deepEq (neg : Bool) (d e : D) (k : Bool → Prop) : Prop := match toPy d, toPy e with
  | some p, some q => (SeqAt.shaped p = true ∧ SeqAt.shaped q = true) ∧ k (nb neg (PyData.eqv p q))
  | _, _ => False
def gEq (neg : Bool) (a b : O) (k : O → Prop) : Prop := vw a fun d => vw b fun e => match d, e with
  | .sc s, .sc t => scal s.v t.v = true ∧ k (.sh (.sc (.bl (nb neg (decide (s = t))))))
  | d, e => deepEq neg d e fun c => k (.sh (.sc (.bl c)))
def rEqU (K : PySem.W.Frag) (neg : Bool) : R2 := fun x y H Q => (scal x y = true ∧ Q (.bl (nb neg (decide (x = y)))) H) ∨ (∃ d e, Dp K H x d ∧ Dp K H y e ∧ SeqAt.shaped d = true ∧ SeqAt.shaped e = true ∧ Q (.bl (nb neg (PyData.eqv d e))) H)
theorem dec_sc {s t : Sc} : decide (s.v = t.v) = decide (s = t) := by
  rw [Bool.eq_iff_iff, decide_eq_true_iff, decide_eq_true_iff]
  exact ⟨Sc.v_inj, fun h => by rw [h]⟩
theorem deepEq_of {neg : Bool} {d e : D} {k : Bool → Prop} (h : deepEq neg d e k) : ∃ p q, toPy d = some p ∧ toPy e = some q ∧ SeqAt.shaped p = true ∧ SeqAt.shaped q = true ∧ k (nb neg (PyData.eqv p q)) := by
  unfold deepEq at h
  split at h
  next p q e1 e2 => exact ⟨p, q, e1, e2, h.1.1, h.1.2, h.2⟩
  · exact h.elim
theorem sr_eq {K : PySem.W.Frag} {neg : Bool} : Sr2 K (rEqU K neg) (gEq neg) := by
  intro S AA H x y a b xs us k Q r hQ h
  obtain ⟨d, e1, h⟩ := vw_of h
  obtain ⟨e, e2, h⟩ := vw_of h
  obtain ⟨p1, p2⟩ := r.two e1 e2
  split at h
  next s t =>
    refine .inl ?_
    rw [p1.scv, p2.scv, dec_sc]
    exact ⟨h.1, hQ _ H _ h.2 (RelA.resS (.bl _) (ts := [_, _]) (us := [_, _]) r rfl)⟩
  next =>
    obtain ⟨p, q, f1, f2, g1, g2, h⟩ := deepEq_of h
    exact .inr ⟨p, q, dp_of _ p1 f1, dp_of _ p2 f2, g1, g2, hQ _ H _ h (RelA.resS (.bl _) (ts := [_, _]) (us := [_, _]) r rfl)⟩
/-! ### is None -/
def isNonD : D → Bool
  | .sc .non => true
  | _ => false
def gIsN (neg : Bool) (a b : O) (k : O → Prop) : Prop := vw a fun d => vw b fun e => match e with
  | .sc .non => k (.sh (.sc (.bl (nb neg (isNonD d)))))
  | _ => False
theorem RpS.isNon {K : PySem.W.Frag} {H : Hp} {B : Addr → Prop} {v : V} {d : D} (h : RpS K H B v d) : decide (v = .non) = isNonD d := by
  cases h with
  | sc s => cases s <;> first | rfl | (rw [decide_eq_false]; rfl; intro z; cases z)
  | nd h1 h2 =>
    rw [decide_eq_false]
    · rfl
    · intro z; cases z
theorem sr_isN {K : PySem.W.Frag} {neg : Bool} : Sr2 K (fun x y H Q => y = .non ∧ Q (.bl (nb neg (decide (x = .non)))) H) (gIsN neg) := by
  intro S AA H x y a b xs us k Q r hQ h
  obtain ⟨d, e1, h⟩ := vw_of h
  obtain ⟨e, e2, h⟩ := vw_of h
  obtain ⟨p1, p2⟩ := r.two e1 e2
  split at h
  · refine ⟨p2.scv, ?_⟩
    rw [p1.isNon]
    exact hQ _ H _ h (RelA.resS (.bl _) (ts := [_, _]) (us := [_, _]) r rfl)
  · exact h.elim
/-! ### in -/
def strIn (x z : Str) : Bool := match x.cps.toList with
  | [c] => decide (c ∈ z.cps.toList)
  | _ => !(Builtin.Str.occurrences z x 0 z.length 1).isEmpty
theorem strIn_cases (w z : Str) : (∃ c, w = ⟨#[c]⟩ ∧ strIn w z = decide (c ∈ z.cps.toList)) ∨ strIn w z = !(Builtin.Str.occurrences z w 0 z.length 1).isEmpty := by
  obtain ⟨⟨l⟩⟩ := w
  rcases l with _ | ⟨c, _ | ⟨c', l⟩⟩
  · exact .inr rfl
  · exact .inl ⟨c, rfl, rfl⟩
  · exact .inr rfl
def flats : List D → Option (List Sc)
  | [] => some []
  | .sc s :: ds => if scFlat s = true then match flats ds with
    | some ss => some (s :: ss)
    | none => none
    else none
  | _ :: _ => none
def inL (neg : Bool) (d : D) (es : List D) (k : O → Prop) : Prop := match toPy d, toPyL es with
  | some p, some ps => (SeqAt.shaped p = true ∧ SeqAt.shaped (.list ps) = true) ∧ k (.sh (.sc (.bl (nb neg (ps.any fun z => PyData.eqv z p)))))
  | _, _ => False
def inT (neg : Bool) (d : D) (es : List D) (k : O → Prop) : Prop := match d, flats es with
  | .sc s, some ss => scFlat s = true ∧ k (.sh (.sc (.bl (nb neg (ss.any fun t => eqV t.v s.v)))))
  | _, _ => False
def inS (neg : Bool) (d : D) (z : Str) (k : O → Prop) : Prop := match d with
  | .sc (.str x) => k (.sh (.sc (.bl (nb neg (strIn x z)))))
  | _ => False
def gIn (neg : Bool) (a b : O) (k : O → Prop) : Prop := vw a fun d => vw b fun e => match e with
  | .sc (.str z) => inS neg d z k
  | .nd .tup es => inT neg d es k
  | .nd .lst es => inL neg d es k
  | .nd .fzl es => inL neg d es k
  | _ => False
def rInU (K : PySem.W.Frag) (neg : Bool) : R2 := fun x y H Q => ((∃ (c : Nat) (z : Str), x = .str ⟨#[c]⟩ ∧ y = .str z ∧ Q (.bl (nb neg (decide (c ∈ z.cps.toList)))) H) ∨ (∃ i j, x = .str i ∧ y = .str j ∧ Q (.bl (nb neg (!(Builtin.Str.occurrences j i 0 j.length 1).isEmpty))) H)) ∨
  (rIn K neg x y H Q ∨ ∃ d ds, Dp K H x d ∧ Dp K H y (.list ds) ∧ SeqAt.shaped d = true ∧ SeqAt.shaped (.list ds) = true ∧ Q (.bl (nb neg (ds.any fun z => PyData.eqv z d))) H)
theorem flats_of {K : PySem.W.Frag} {H : Hp} {B : Addr → Prop} : ∀ {ds : List D} {vs : List V} {ss : List Sc}, RpSs K H B vs ds → flats ds = some ss → vs = ss.map Sc.v ∧ vs.all flatV = true
  | [], _, _, h, e => by
    cases h
    cases e
    exact ⟨rfl, rfl⟩
  | .sc s :: ds, _, ss, h, e => by
    cases h with
    | cons h1 h2 =>
      have e0 : (if scFlat s = true then match flats ds with | some ss => some (s :: ss) | none => none else none) = some ss := e
      by_cases hf : scFlat s = true
      · rw [if_pos hf] at e0
        cases e1 : flats ds with
        | none => rw [e1] at e0; cases e0
        | some tt =>
          rw [e1] at e0
          cases e0
          obtain ⟨q1, q2⟩ := flats_of h2 e1
          cases h1
          refine ⟨by rw [q1]; rfl, ?_⟩
          rw [List.all_cons, q2, Bool.and_true]
          cases s <;> first | rfl | cases hf
      · rw [if_neg hf] at e0
        cases e0
  | .nd _ _ :: _, _, _, _, e => by cases e
theorem sr_in {K : PySem.W.Frag} {neg : Bool} : Sr2 K (rInU K neg) (gIn neg) := by
  intro S AA H x y a b xs us k Q r hQ h
  obtain ⟨d, e1, h⟩ := vw_of h
  obtain ⟨e, e2, h⟩ := vw_of h
  obtain ⟨p1, p2⟩ := r.two e1 e2
  have fin : ∀ c, k (.sh (.sc (.bl c))) → Q (.bl c) H := fun c hk => hQ _ H _ hk (RelA.resS (.bl c) (ts := [_, _]) (us := [_, _]) r rfl)
  have deep : ∀ {l : Lab} {es : List D}, (∀ ps, toPyL es = some ps → toPy (.nd l es) = some (.list ps)) → RpS K H NB y (.nd l es) → inL neg d es k → rInU K neg x y H Q := by
    intro l es hl p2 h
    unfold inL at h
    split at h
    next p ps f1 f2 => exact .inr (.inr ⟨p, ps, dp_of _ p1 f1, dp_of _ p2 (hl ps f2), h.1.1, h.1.2, fin _ h.2⟩)
    · exact h.elim
  cases e with
  | sc s =>
    cases s with
    | str z =>
      replace h : inS neg d z k := h
      cases d with
      | nd _ _ => exact h.elim
      | sc t =>
        cases t with
        | str w =>
          replace h : k (.sh (.sc (.bl (nb neg (strIn w z))))) := h
          rcases strIn_cases w z with ⟨c, ew, e3⟩ | e3
          · subst ew
            rw [e3] at h
            exact .inl (.inl ⟨c, z, p1.scv, p2.scv, fin _ h⟩)
          · rw [e3] at h
            exact .inl (.inr ⟨_, _, p1.scv, p2.scv, fin _ h⟩)
        | _ => exact h.elim
    | _ => exact h.elim
  | nd l es =>
    cases l with
    | tup =>
      replace h : inT neg d es k := h
      cases d with
      | nd _ _ => exact h.elim
      | sc t =>
        cases ef : flats es with
        | none =>
          unfold inT at h
          rw [ef] at h
          exact h.elim
        | some ss =>
          replace h : inT neg (.sc t) es k := h
          unfold inT at h
          rw [ef] at h
          cases p2 with
          | @nd m _ ws _ s2 c2 =>
            obtain ⟨q1, q2⟩ := flats_of c2 ef
            subst q1
            refine .inr (.inl ⟨m, _, rfl, .inr s2.seqT, ?_, q2, ?_⟩)
            · rw [p1.scv]
              cases t <;> first | rfl | cases h.1
            · have e5 : (if neg = true then !inV x (ss.map Sc.v) else inV x (ss.map Sc.v)) = nb neg (ss.any fun u => eqV u.v t.v) := by
                unfold nb inV
                rw [p1.scv, List.any_map]
                rfl
              rw [e5]
              exact fin _ h.2
    | lst =>
      refine deep (fun ps f2 => ?_) p2 h
      show (match toPyL es with | some ps => some (PyData.list ps) | none => none) = _
      rw [f2]
    | fzl =>
      refine deep (fun ps f2 => ?_) p2 h
      show (match toPyL es with | some ps => some (PyData.list ps) | none => none) = _
      rw [f2]
    | _ => exact h.elim
section
variable {X : Cx}
theorem op_eqU (neg : Bool) (hu : X.A.units + 64 < cLine) : OpR X (compareOp (if neg then .NotEq else .Eq)) (rEqU X.K neg) := by
  cases neg with
  | false => exact OpR.or op_eq (op_eqD hu)
  | true => exact OpR.or op_ne (op_neD hu)
theorem op_inU (neg : Bool) (hu : X.A.units + 65 < cLine) : OpR X (compareOp (if neg then .NotIn else .In)) (rInU X.K neg) := by
  cases neg with
  | false => exact OpR.or (OpR.or op_in_sign op_in_str) (OpR.or op_in_seq (op_inD hu))
  | true => exact OpR.or (OpR.or op_notIn_sign op_notIn_str) (OpR.or op_notIn_seq (op_notInD hu))
theorem op_addU : OpR X (binaryOp .Add) (rAddU X.K) := OpR.or (OpR.or op_add op_add_str) (OpR.or op_cat op_catA)
theorem op_mulU : OpR X (binaryOp .Mult) (rMulU X.K) := OpR.or op_mulX (OpR.or op_mulS op_rep)
end
end VL

namespace VL
open PySem PySem.Spec L2

/-! ### the parts of a value, read -/
/-- a part as it is read: owned ones are lent -/
def bw : O → Option O
  | .top => none
  | .pin _ => none
  | .al a p => some (.al a p)
  | .nm a o => some (.bor (.nm a o))
  | .sh d => some (.sh d)
  | .bor o => some (.bor o)
  | .ow l cs => some (.bor (.ow l cs))
  | .dp l os => some (.bor (.dp l os))
def partsOf : O → Option (Lab × List O)
  | .sh (.nd l ds) => some (l, ds.map .sh)
  | .ow l ds => some (l, ds.map .sh)
  | .dp l os => some (l, os)
  | .bor o => partsOf o
  | .nm _ o => partsOf o
  | _ => none
section
variable {K : PySem.W.Frag} {H : Hp} {B : Addr → Prop}
theorem RpO.bw {o u : O} {x : Option V} {A : List Addr} (h : RpO K H B x o A) (e : bw o = some u) : ∃ v, x = some v ∧ RpO K H B (some v) u [] := by
  cases o with
  | top => cases e
  | pin v => cases e
  | al a p => cases e; cases h; exact ⟨_, rfl, .al⟩
  | nm a o => cases e; cases h with | nm a b => exact ⟨_, rfl, .bor (.nm a b)⟩
  | sh d => cases e; cases h with | sh h1 => exact ⟨_, rfl, .sh h1⟩
  | bor o => cases e; cases h with | bor h1 => exact ⟨_, rfl, .bor h1⟩
  | ow l cs => cases e; cases h with | ow a b c => exact ⟨_, rfl, .bor (.ow a b c)⟩
  | dp l os => cases e; cases h with | dp a b c d => exact ⟨_, rfl, .bor (.dp a b c d)⟩
theorem RpSs.pos {vs : List V} {ds : List D} (h : RpSs K H B vs ds) : RpOs K H B (vs.map some) (ds.map .sh) [] := by
  induction ds generalizing vs with
  | nil => cases h; exact .nil
  | cons d ds ih =>
    cases h with
    | cons h1 h2 => exact RpOs.cons (A := []) (.sh h1) (ih h2)
theorem RpO.parts : ∀ (o : O) {v : V} {A : List Addr} {l : Lab} {os : List O}, RpO K H B (some v) o A → partsOf o = some (l, os) → ∃ a vs A', v = .ref a ∧ ShAt K H NB l a vs ∧ RpOs K H B (vs.map some) os A'
  | .top, _, _, _, _, _, e => by cases e
  | .pin _, _, _, _, _, _, e => by cases e
  | .al _ _, _, _, _, _, _, e => by cases e
  | .nm b o, _, _, _, _, h, e => by
    cases h with
    | nm h1 h2 => exact RpO.parts o h2 e
  | .sh d, _, _, _, _, h, e => by
    cases d with
    | sc s => cases e
    | nd l ds =>
      cases e
      cases h with
      | sh h1 =>
        cases h1 with
        | nd h1 h2 => exact ⟨_, _, _, rfl, h1.keep keepNB, h2.pos⟩
  | .ow l ds, _, _, _, _, h, e => by
    cases e
    cases h with
    | ow h1 h2 h4 => exact ⟨_, _, _, rfl, .inl ⟨fun z => z, _, h1, .inl h2⟩, h4.pos⟩
  | .dp l os, _, _, _, _, h, e => by
    cases e
    cases h with
    | dp h1 h2 hb h4 => exact ⟨_, _, _, rfl, .inl ⟨fun z => z, _, h1, .inl h2⟩, h4⟩
  | .bor o, _, _, _, _, h, e => by
    cases h with
    | bor h1 => exact RpO.parts o h1 e
end
section
variable {K : PySem.W.Frag} {S : Addr → Prop} {AA : List Addr} {H : Hp}
theorem RelA.partsAt {xs : List (Option V)} {os : List O} {i : Nat} {v : V} {o : O} {l : Lab} {ps : List O} (r : RelA K S AA H xs os) (hx : xs[i]? = some (some v)) (ho : os[i]? = some o) (hk : partsOf o = some (l, ps)) :
    ∃ a vs A', v = .ref a ∧ ShAt K H NB l a vs ∧ RpOs K H (fun a => S a ∨ a ∈ AA) (vs.map some) ps A' := by
  obtain ⟨x, A, h1, h2⟩ := r.get ho
  rw [hx] at h1
  cases h1
  exact RpO.parts o h2 hk
/-- a part comes in the place of the temps -/
theorem RelA.resP {ts xs : List (Option V)} {us os : List O} {x : Option V} {p u : O} {A : List Addr} (r : RelA K S AA H (ts ++ xs) (us ++ os)) (hl : ts.length = us.length) (h : RpO K H (fun a => S a ∨ a ∈ AA) x p A) (e : bw p = some u) :
    ∃ v, x = some v ∧ ∃ AA', RelA K S AA' H (some v :: xs) (u :: os) ∧ Ext AA H AA' H ∧ Same H H := by
  obtain ⟨v, ex, h2⟩ := h.bw e
  obtain ⟨A1, r1, s1⟩ := r.dropN hl
  have k : Keep H H (fun a => S a ∨ a ∈ AA) (fun a => S a ∨ a ∈ A1) := Keep.here fun a z => z.imp_right (s1 a)
  exact ⟨v, ex, A1, r1.push (h2.pure k (Same.refl H)), Ext.refl.sub s1, Same.refl H⟩
end
/-! ### a[b] -/
def keyD : D → Option Key
  | .sc (.int i) => some (.inl i)
  | .sc (.str x) => some (.inr x)
  | _ => none
def getK {α : Type} : List Key → List α → Key → Option α
  | k' :: ks, d :: ds, k => if k' = k then some d else getK ks ds k
  | _, _, _ => none
def isSeqL : Lab → Bool
  | .lst => true
  | .fzl => true
  | .tup => true
  | _ => false
def outO (o : Option O) (k : O → Prop) : Prop := match o with
  | some o => match bw o with
    | some u => k u
    | none => False
  | none => False
def gIx (a b : O) (k : O → Prop) : Prop := vw b fun e => match partsOf a with
  | some (.dk ks, os) => match keyD e with
    | some y => outO (getK ks os y) k
    | none => False
  | some (l, os) => match e with
    | .sc (.int i) => isSeqL l = true ∧ outO (atI os i) k
    | _ => False
  | none => vw a fun d => match d, e with
    | .sc (.str z), .sc (.int i) => z.length ≤ sizeLine ∧ match atI z.cps.toList i with
      | some c => k (.sh (.sc (.str ⟨#[c]⟩)))
      | none => False
    | _, _ => False
def rIxU (K : PySem.W.Frag) : R2 := fun x y H Q => rIx K x y H Q ∨ ∃ a v, x = .ref a ∧ DGet H a y (some v) ∧ Q v H
theorem ix_u {X : Cx} (hu : X.A.units + 1 < cLine) : IxR X (rIxU X.K) := by
  intro value slice pins s σ H x y v u Q I rx ry h hs
  rcases h with h | ⟨a, w, rfl, g, q⟩
  · exact ix_seq value slice pins s σ H x y v u Q I rx ry h hs
  · cases (show v = Value.ref a from rx)
    exact PyProof.Rows.tail_any (dict_typeIs I g) PySem.F.slot_dict_getitem.lookup (d_getItem hu I g ry fun w' s3 I3 rw' => ⟨w, H, I3, rw', q⟩) hs
theorem outO_of {o : Option O} {k : O → Prop} (h : outO o k) : ∃ p u, o = some p ∧ bw p = some u ∧ k u := by
  unfold outO at h
  cases o with
  | none => exact h.elim
  | some p =>
    cases e : bw p with
    | none => simp only [e] at h
    | some u =>
      simp only [e] at h
      exact ⟨p, u, rfl, e, h⟩
theorem atI_iff {α : Type} {xs : List α} {i : Int} {x : α} : atI xs i = some x ↔ ∃ j, ixN xs.length i = some j ∧ xs[j]? = some x := by
  unfold atI
  cases ixN xs.length i with
  | none => simp
  | some j => simp
theorem RpOs.atI {K : PySem.W.Frag} {H : Hp} {B : Addr → Prop} {vs : List V} {os : List O} {A : List Addr} {i : Int} {o : O} (h : RpOs K H B (vs.map some) os A) (e : L2.atI os i = some o) : ∃ v A', L2.atI vs i = some v ∧ RpO K H B (some v) o A' := by
  obtain ⟨j, e1, e2⟩ := atI_iff.mp e
  obtain ⟨x, A', e3, h3, _⟩ := h.get e2
  have hl := h.length
  rw [List.length_map] at hl
  rw [List.getElem?_map] at e3
  cases e4 : vs[j]? with
  | none => rw [e4] at e3; cases e3
  | some v =>
    rw [e4] at e3
    cases e3
    exact ⟨v, A', atI_iff.mpr ⟨j, by rw [hl]; exact e1, e4⟩, h3⟩
theorem getK_val {K : PySem.W.Frag} {H : Hp} {B : Addr → Prop} {k : Key} : ∀ {ks : List Key} {vs : List V} {os : List O} {A : List Addr}, RpOs K H B (vs.map some) os A → ks.length = vs.length →
    match getK ks os k with
    | some o => ∃ v A', valV (ks.zip vs) k = some v ∧ RpO K H B (some v) o A'
    | none => valV (ks.zip vs) k = none
  | [], vs, os, A, h, hl => by
    have : vs = [] := List.length_eq_zero_iff.mp hl.symm
    subst this
    unfold getK
    exact rfl
  | k' :: ks, [], os, A, h, hl => by cases hl
  | k' :: ks, v :: vs, os, A, h, hl => by
    cases os with
    | nil => cases h
    | cons o os =>
      have h' : RpOs K H B (some v :: vs.map some) (o :: os) A := h
      cases h' with
      | cons h1 h2 =>
        by_cases e : k' = k
        · have : getK (k' :: ks) (o :: os) k = some o := by unfold getK; rw [if_pos e]
          rw [this]
          exact ⟨v, _, valV_pos (p := (k', v)) e, h1⟩
        · have : getK (k' :: ks) (o :: os) k = getK ks os k := by rw [getK, if_neg e]
          rw [this]
          have ih := getK_val (k := k) h2 (show ks.length = vs.length by simpa using hl)
          have e2 : valV ((k' :: ks).zip (v :: vs)) k = valV (ks.zip vs) k := valV_neg (p := (k', v)) e
          rw [e2]
          exact ih
theorem keyD_kV {K : PySem.W.Frag} {H : Hp} {B : Addr → Prop} {v : V} {d : D} {k : Key} (h : RpS K H B v d) (e : keyD d = some k) : v = kV k := by
  cases h with
  | sc s => cases s <;> first | (cases e; rfl) | cases e
  | nd _ _ => cases e
theorem ShAt.rdK {K : PySem.W.Frag} {H : Hp} {B : Addr → Prop} {ks : List Key} {a : Addr} {vs : List V} (h : ShAt K H B (.dk ks) a vs) : ks.length = vs.length ∧ Rd H a (.dK (ks.zip vs)) := by
  rcases h with ⟨_, u, r, c⟩ | h
  · rcases c with ⟨c1, c2⟩ | ⟨o, u', e, ⟨c1, c2⟩, _⟩
    · subst c2
      exact ⟨c1, .inl r⟩
    · subst e c2
      exact ⟨c1, .inr ⟨o, r⟩⟩
  · exact (show False from h).elim
theorem sr_ix {K : PySem.W.Frag} : Sr2 K (rIxU K) gIx := by
  intro S AA H x y a b xs us k Q r hQ h
  obtain ⟨e, e2, h⟩ := vw_of h
  have p2 := r.read2 e2
  cases ep : partsOf a with
  | none =>
    simp only [ep] at h
    obtain ⟨d, e1, h⟩ := vw_of h
    have p1 := r.read1 e1
    split at h
    next z i =>
      obtain ⟨hz, h⟩ := h
      split at h
      next c ec =>
        exact .inl (.inr (.inr ⟨_, _, c, p1.scv, p2.scv, hz, ec, hQ _ H _ h (RelA.resS (.str _) (ts := [_, _]) (us := [_, _]) r rfl)⟩))
      · exact h.elim
    · exact h.elim
  | some lp =>
    obtain ⟨l, os⟩ := lp
    obtain ⟨p, vs, A', ev, hsh, hps⟩ := r.partsAt (i := 0) rfl rfl ep
    have seq : ∀ {i : Int}, e = .sc (.int i) → isSeqL l = true → outO (atI os i) k → rIxU K x y H Q := by
      intro i ee hl h
      obtain ⟨q, u, e3, e4, hk⟩ := outO_of h
      obtain ⟨w, A2, e5, h5⟩ := hps.atI e3
      obtain ⟨w', ew, R⟩ := RelA.resP (ts := [_, _]) (us := [_, _]) r rfl h5 e4
      cases ew
      subst ee
      cases l with
      | lst => exact .inl (.inl ⟨p, vs, _, w, ev, p2.scv, hsh.seqL, e5, hQ w H u hk R⟩)
      | fzl => exact .inl (.inl ⟨p, vs, _, w, ev, p2.scv, hsh.seqF, e5, hQ w H u hk R⟩)
      | tup => exact .inl (.inr (.inl ⟨p, vs, _, w, ev, p2.scv, hsh.seqT, e5, hQ w H u hk R⟩))
      | _ => cases hl
    cases l with
    | dk ks =>
      simp only [ep] at h
      split at h
      next y0 ey =>
        obtain ⟨q, u, e3, e4, hk⟩ := outO_of h
        obtain ⟨hl, hr⟩ := hsh.rdK
        have g := getK_val (k := y0) hps hl
        rw [e3] at g
        obtain ⟨w, A2, e5, h5⟩ := g
        obtain ⟨w', ew, R⟩ := RelA.resP (ts := [_, _]) (us := [_, _]) r rfl h5 e4
        cases ew
        exact .inr ⟨p, w, ev, .inl ⟨_, y0, hr, keyD_kV p2 ey, e5.symm⟩, hQ w H u hk R⟩
      · exact h.elim
    | lst =>
      simp only [ep] at h
      split at h
      next i => exact seq rfl h.1 h.2
      · exact h.elim
    | fzl =>
      simp only [ep] at h
      split at h
      next i => exact seq rfl h.1 h.2
      · exact h.elim
    | tup =>
      simp only [ep] at h
      split at h
      next i => exact seq rfl h.1 h.2
      · exact h.elim
    | dt ks =>
      simp only [ep] at h
      split at h
      next i => exact seq rfl h.1 h.2
      · exact h.elim
    | obj C fs =>
      simp only [ep] at h
      split at h
      next i => exact seq rfl h.1 h.2
      · exact h.elim
    | exc _ _ _ _ =>
      simp only [ep] at h
      split at h
      next i => exact seq rfl h.1 h.2
      · exact h.elim
section
variable {X : Cx} {W : WX} {pa pb : Bool} {a b : Expr} {ra rb : VE} {pos : Pos}
theorem ev_ix {q_ : Bool} (hu : X.A.units + 1 < cLine) (ha : Ev X W pa a ra) (hb : Ev X W pb b rb) (hs : PlainIx b := by intro _ _; rfl) (hq_ : (pa && pb) = q_ := by rfl) : Ev X W q_ (.Subscript a b pos) (vBin pb (gn2 gIx) ra rb) := by
  subst hq_
  obtain ⟨ta, ea, sa⟩ := ha.ex
  obtain ⟨tb, eb, sb⟩ := hb.ex
  exact ⟨_, pe_ix (ix_u hu) ea eb hs, snd_bin sr_ix.srv sa sb⟩
end
/-! ### o.f -/
def gFld (C : Addr) (f : Str) (a : O) (k : O → Prop) : Prop := match partsOf a with
  | some (.obj C' fs, os) => C' = C ∧ outO (getF fs os f) k
  | _ => False
where
  getF : List Str → List O → Str → Option O
    | g :: fs, o :: os, f => if f == g then some o else getF fs os f
    | _, _, _ => none

theorem getF_val {K : PySem.W.Frag} {H : Hp} {B : Addr → Prop} {f : Str} : ∀ {fs : List Str} {vs : List V} {os : List O} {A : List Addr} {o : O}, RpOs K H B (vs.map some) os A → gFld.getF fs os f = some o → ∃ v A', (fs.zip vs).lookup f = some v ∧ RpO K H B (some v) o A'
  | [], _, _, _, _, _, e => by unfold gFld.getF at e; cases e
  | _ :: _, [], os, _, _, h, e => by
    cases h
    unfold gFld.getF at e
    cases e
  | g :: fs, v :: vs, os, A, o, h, e => by
    cases os with
    | nil => cases h
    | cons o' os =>
      have h' : RpOs K H B (some v :: vs.map some) (o' :: os) A := h
      cases h' with
      | cons h1 h2 =>
        unfold gFld.getF at e
        show ∃ v_1 A', (match f == g with | true => some v | false => (fs.zip vs).lookup f) = some v_1 ∧ _
        cases eg : f == g with
        | true =>
          rw [eg] at e
          simp only [if_true] at e
          cases e
          exact ⟨v, _, rfl, h1⟩
        | false =>
          rw [eg] at e
          simp only [Bool.false_eq_true, if_false] at e
          exact getF_val h2 e
theorem ShAt.insAt {K : PySem.W.Frag} {H : Hp} {B : Addr → Prop} {C : Addr} {fs : List Str} {a : Addr} {vs : List V} (h : ShAt K H B (.obj C fs) a vs) : fs.length = vs.length ∧ ∃ dx, H a = some (.ins C dx (fs.zip vs)) := by
  rcases h with ⟨_, u, r, c⟩ | h
  · rcases c with ⟨c1, dx, c2⟩ | ⟨_, _, _, _, e⟩
    · rw [c2] at r
      exact ⟨c1, dx, r⟩
    · cases e
  · exact (show False from h).elim
def rFld (K : PySem.W.Frag) (f : Str) : V → Hp → L2.VK → Prop := fun x H Q => ∃ a C dx fs v, x = .ref a ∧ H a = some (.ins C dx fs) ∧ Cls K C ∧ NoAttr K C f ∧ fs.lookup f = some v ∧ Q v H
theorem sr_fld {K : PySem.W.Frag} {C : Addr} {f : Str} (c : Cls K C) (n : NoAttr K C f) : Sr1 K (rFld K f) (gFld C f) := by
  intro S AA H x a xs us k Q r hQ h
  unfold gFld at h
  split at h
  next C' fs os ep =>
    obtain ⟨eC, h⟩ := h
    subst eC
    obtain ⟨p, vs, A', ev, hsh, hps⟩ := r.partsAt (i := 0) rfl rfl ep
    obtain ⟨q, u, e3, e4, hk⟩ := outO_of h
    obtain ⟨w, A2, e5, h5⟩ := getF_val hps e3
    obtain ⟨w', ew, R⟩ := RelA.resP (ts := [_]) (us := [_]) r rfl h5 e4
    cases ew
    obtain ⟨_, dx, hi⟩ := hsh.insAt
    exact ⟨p, C', dx, _, w, ev, hi, c, n, e5, hQ w H u hk R⟩
  · exact h.elim
section
variable {X : Cx} {W : WX} {pa : Bool} {e : Expr} {ra : VE} {f : Str} {pos : Pos} {C : Addr}
theorem ev_fld (c : Cls X.K C) (n : NoAttr X.K C f) (ha : Ev X W pa e ra) (hb : attributeBase e f X.env (eval e X.env) = eval e X.env := by rfl) : Ev X W pa (.Attribute e f pos) (vUn (gn1 (gFld C f)) ra) := by
  obtain ⟨ta, ea, sa⟩ := ha.ex
  exact ⟨_, pe_fld ea hb, snd_un (sr_fld c n).srv sa⟩
end
/-! ### slices -/
abbrev VO := Env → (Option Int → Env → Prop) → XP → Prop
def SndO (K : PySem.W.Frag) (W : WX) (p : Bool) (t : TO) (r : VO) : Prop := ∀ (S : Addr → Prop) (AA : List Addr) (H : Hp) (σ : L2.St) (ρ : Env) (φ : Option Int → Env → Prop) (ε : XP) (Q : Option Int → Hp → Prop), RelA K S AA H σ ρ → LinkE K S AA H W σ ε →
  (∀ b H' ρ' AA', φ b ρ' → RelA K S AA' H' σ ρ' → Ext AA H AA' H' → (p = true → ρ' = ρ ∧ Same H H') → Q b H') → r ρ φ ε → t σ H Q
structure Ov (X : Cx) (W : WX) (p : Bool) (e : Option Expr) (r : VO) : Prop where
  ex : ∃ t, PO X e t ∧ SndO X.K W p t r
def vNoPart : VO := fun ρ φ _ => φ none ρ
def vPart (r : VE) : VO := fun ρ φ ε => r ρ (fun o ρ' => match o with
  | .sh (.sc (.int i)) => φ (some i) ρ'
  | _ => False) ε
def cutL {α : Type} (xs : List α) (lo hi : Option Int) : List α := (xs.drop (HT.sIx xs.length 0 lo)).take (HT.sIx xs.length xs.length hi - HT.sIx xs.length 0 lo)
def gSl (a : O) (lo hi : Option Int) (k : O → Prop) : Prop := match view a with
  | some (.sc (.str z)) => z.length ≤ sizeLine ∧ k (.sh (.sc (.str (cutS z lo hi))))
  | some (.nd .tup _) => match fz a with
    | some (.nd .tup ds) => k (.sh (.nd .tup (cutL ds lo hi)))
    | _ => False
  | some (.nd _ _) => match kids a with
    | some (.lst, ds) => k (.ow .lst (cutL ds lo hi))
    | some (.fzl, ds) => k (.ow .lst (cutL ds lo hi))
    | _ => False
  | _ => False
def rSlU (K : PySem.W.Frag) : V → Option Int → Option Int → Hp → L2.VK → Prop := fun x lo hi H Q => (rSlL K x lo hi H Q ∨ rSlA K x lo hi H Q) ∨ rSlS x lo hi H Q
theorem sl_u {X : Cx} : SlR X (rSlU X.K) := SlR.or (SlR.or sl_list sl_tupA) sl_str
theorem RpSs.take_ {K : PySem.W.Frag} {H : Hp} {B : Addr → Prop} {vs : List V} {ds : List D} (h : RpSs K H B vs ds) (n : Nat) : RpSs K H B (vs.take n) (ds.take n) := by
  induction n generalizing vs ds with
  | zero => exact .nil
  | succ n ih =>
    cases ds with
    | nil => cases h; exact .nil
    | cons d ds => cases h with | cons h1 h2 => exact .cons h1 (ih h2)
theorem RpSs.drop_ {K : PySem.W.Frag} {H : Hp} {B : Addr → Prop} {vs : List V} {ds : List D} (h : RpSs K H B vs ds) (n : Nat) : RpSs K H B (vs.drop n) (ds.drop n) := by
  induction n generalizing vs ds with
  | zero => exact h
  | succ n ih =>
    cases ds with
    | nil => cases h; exact .nil
    | cons d ds => cases h with | cons h1 h2 => exact ih h2
theorem RpSs.cut {K : PySem.W.Frag} {H : Hp} {B : Addr → Prop} {vs : List V} {ds : List D} (h : RpSs K H B vs ds) (lo hi : Option Int) : RpSs K H B (cutV vs lo hi) (cutL ds lo hi) := by
  unfold cutV cutL
  rw [h.len]
  exact (h.drop_ _).take_ _
theorem snd_sl {K : PySem.W.Frag} {W : WX} {p p1 p2 : Bool} {te : TE} {re : VE} {tl th : TO} {rl rh : VO} (he : SndE K W p te re) (hl : SndO K W p1 tl rl) (hh : SndO K W p2 th rh) :
    SndE K W (p && (p1 && p2)) (tSl (rSlU K) te tl th) (fun ρ φ ε => re ρ (fun o ρ1 => rl ρ1 (fun lo ρ2 => rh ρ2 (fun hi ρ3 => gSl (kl (p1 && p2) o) lo hi fun o' => φ o' ρ3) ε) ε) ε) := by
  intro S AA H σ ρ φ ε Q r l hQ h
  refine he S AA H σ ρ _ ε _ r l (fun v1 H1 o1 ρ1 A1 h1 r1 x1 q1 => ?_) h
  obtain ⟨T, A, eT, r1', J⟩ := RelA.under (ts := [some v1]) (us := [o1]) (xs := σ) (os := ρ1) r1 rfl (p1 && p2)
  subst eT
  refine hl _ A H1 σ ρ1 _ ε _ r1' (l.step x1).under (fun lo H2 ρ2 A2 h2 r2 x2 q2 => ?_) h1
  refine hh _ A2 H2 σ ρ2 _ ε _ r2 ((l.step x1).under.step x2) (fun hi H3 ρ3 A3 h3 r3 x3 q3 => ?_) h2
  obtain ⟨r4, x4⟩ := J A3 H3 σ ρ3 (x2.trans x3) r3 fun e => by
    obtain ⟨e1, e2⟩ := and2 e
    exact Same.trans (q2 e1).2 (q3 e2).2
  have pure : (p && (p1 && p2)) = true → ρ3 = ρ ∧ Same H H3 := fun e => by
    obtain ⟨e0, e⟩ := and2 e
    obtain ⟨e1, e2⟩ := and2 e
    exact ⟨(q3 e2).1.trans ((q2 e1).1.trans (q1 e0).1), Same.trans (q1 e0).2 (Same.trans (q2 e1).2 (q3 e2).2)⟩
  have fin : ∀ v H' o AA', φ o ρ3 → RelA K S AA' H' (some v :: σ) (o :: ρ3) → Ext (T ++ A3) H3 AA' H' → Same H3 H' → Q v H' := fun v H' o AA' hk r' x' s' => hQ v H' o ρ3 AA' hk r' ((x1.trans x4).trans x') fun e => ⟨(pure e).1, Same.trans (pure e).2 s'⟩
  replace r4 : RelA K S (T ++ A3) H3 (some v1 :: σ) (kl (p1 && p2) o1 :: ρ3) := r4
  generalize kl (p1 && p2) o1 = o at r4 h3
  unfold gSl at h3
  split at h3
  next z ev =>
    have rd := RelA.read1 (xs := σ) (os := ρ3) r4 ev
    obtain ⟨A5, r5, x5, s5⟩ := RelA.resS (.str (cutS z lo hi)) (ts := [some v1]) (us := [o]) r4 rfl
    exact .inr ⟨z, rd.scv, h3.1, fin _ H3 _ A5 h3.2 r5 x5 s5⟩
  next ds0 ev =>
    split at h3
    next ds ef =>
      obtain ⟨A5, r5, hs, s5⟩ := RelA.fz1 (xs := σ) (os := ρ3) r4 ef
      have x5 : Ext (T ++ A3) H3 A5 H3 := Ext.refl.sub s5
      cases hs with
      | @nd a _ vs _ c1 c2 =>
        refine .inl (.inr ⟨a, vs, rfl, c1.seqT, fun e => ?_, fun _ q hq => ?_⟩)
        · have e2 : cutL ds lo hi = ds := by
            unfold cutL
            rw [← c2.len, e.1, e.2, List.drop_zero, Nat.sub_zero, c2.len, List.take_length]
          rw [e2] at h3
          exact fin _ H3 _ A5 h3 (r5.push (.sh (.nd c1 c2))) x5 (Same.refl H3)
        · obtain ⟨r6, x6, s6⟩ := RelA.newS (l := .tup) r5 hq rfl (c2.cut lo hi)
          exact fin _ _ _ A5 h3 r6 (x5.trans x6) s6
    · exact h3.elim
  next l0 ds0 _ ev =>
    have go : ∀ ds, (kids o = some (.lst, ds) ∨ kids o = some (.fzl, ds)) → φ (.ow .lst (cutL ds lo hi)) ρ3 → rSlU K v1 lo hi H3 Q := by
      intro ds hk h3
      rcases hk with hk | hk
      · obtain ⟨a, vs, e1, s1, c1⟩ := RelA.kidsAt (i := 0) (xs := some v1 :: σ) (os := o :: ρ3) r4 rfl rfl hk
        refine .inl (.inl ⟨a, vs, e1, s1.seqL, fun q hq => ?_⟩)
        obtain ⟨A5, r5, x5, s5⟩ := RelA.resO (l := .lst) (ts := [some v1]) (us := [o]) r4 rfl hq rfl (c1.cut lo hi)
        exact fin _ _ _ A5 h3 r5 x5 s5
      · obtain ⟨a, vs, e1, s1, c1⟩ := RelA.kidsAt (i := 0) (xs := some v1 :: σ) (os := o :: ρ3) r4 rfl rfl hk
        refine .inl (.inl ⟨a, vs, e1, s1.seqF, fun q hq => ?_⟩)
        obtain ⟨A5, r5, x5, s5⟩ := RelA.resO (l := .lst) (ts := [some v1]) (us := [o]) r4 rfl hq rfl (c1.cut lo hi)
        exact fin _ _ _ A5 h3 r5 x5 s5
    split at h3
    next ds hk => exact go ds (.inl hk) h3
    next ds hk => exact go ds (.inr hk) h3
    · exact h3.elim
  · exact h3.elim
section
variable {X : Cx} {W : WX} {p p1 p2 : Bool} {e : Expr} {lo hi : Option Expr} {re : VE} {rl rh : VO} {pos pos2 : Pos}
theorem ov_none : Ov X W true none vNoPart := ⟨_, po_none, fun S AA H σ ρ φ ε Q r l hQ h => hQ none H ρ AA h r Ext.refl fun _ => ⟨rfl, Same.refl H⟩⟩
theorem ov_some (he : Ev X W p e re) : Ov X W p (some e) (vPart re) := by
  obtain ⟨t, ht, st⟩ := he.ex
  refine ⟨_, po_some ht, fun S AA H σ ρ φ ε Q r l hQ h => ?_⟩
  refine st S AA H σ ρ _ ε _ r l (fun v H1 o ρ1 A1 h1 r1 x1 q1 => ?_) h
  split at h1
  next i =>
    obtain ⟨A2, r2, s2⟩ := r1.drop1
    have rd := r1.read1 (d := .sc (.int i)) rfl
    exact ⟨i, rd.scv, hQ _ H1 ρ1 A2 h1 r2 (x1.sub s2) q1⟩
  · exact h1.elim
def vSl (pp : Bool) (re : VE) (rl rh : VO) : VE := fun ρ φ ε => re ρ (fun o ρ1 => rl ρ1 (fun lo ρ2 => rh ρ2 (fun hi ρ3 => gSl (kl pp o) lo hi fun o' => φ o' ρ3) ε) ε) ε
theorem ev_sl {q_ pp : Bool} (he : Ev X W p e re) (hl : Ov X W p1 lo rl) (hh : Ov X W p2 hi rh) (hq_ : (p && pp) = q_ := by rfl) (hpp : (p1 && p2) = pp := by rfl) : Ev X W q_ (.Subscript e (.Slice lo hi none pos2) pos) (vSl pp re rl rh) := by
  subst hq_ hpp
  obtain ⟨t, ht, st⟩ := he.ex
  obtain ⟨tl, htl, stl⟩ := hl.ex
  obtain ⟨th, hth, sth⟩ := hh.ex
  exact ⟨_, pe_slice sl_u ht htl hth, snd_sl st stl sth⟩
end
end VL

namespace VL
open PySem PySem.Spec L2

/-! ### displays -/
def mkTup (os : List O) : O := match shL os with
  | some ds => .sh (.nd .tup ds)
  | none => .dp .tup os
def mkLst (os : List O) : O := match shL os with
  | some ds => .ow .lst ds
  | none => .dp .lst os
def gNew (mk : List O → O) (os : List O) (k : O → Prop) : Prop := (os.length ≤ sizeLine ∧ os.all (fun o => !isBor o) = true) ∧ k (mk os)
theorem RpOs.shsS {K : PySem.W.Frag} {H : Hp} {B : Addr → Prop} {vs : List V} {os : List O} {A : List Addr} {ds : List D} (h : RpOs K H B (vs.map some) os A) (e : shL os = some ds) : RpSs K H B vs ds := RpOs.shs h e
theorem snd_new {K : PySem.W.Frag} {W : WX} {p : Bool} {l : Lab} {mkH : List V → HO} {mk : List O → O} {t : TA} {ra : VA} (hc : ∀ vs, cellIs l vs (mkH vs)) (hm : ∀ os ds, shL os = some ds → (mk os = .sh (.nd l ds) ∨ mk os = .ow l ds)) (hm2 : ∀ os, shL os = none → mk os = .dp l os)
    (ha : SndA K W p t ra) : SndE K W p (fun σ H Q => t σ H fun xs H1 => xs.length ≤ sizeLine ∧ ∀ p, H1 p = none → Q (.ref p) (upd H1 p (mkH xs))) (fun ρ φ ε => ra ρ (fun os ρ1 => gNew mk os fun o => φ o ρ1) ε) := by
  intro S AA H σ ρ φ ε Q r l' hQ h
  refine ha S AA H σ ρ _ ε _ r l' (fun vs H1 os ρ1 A1 h1 hl r1 x1 p1 => ?_) h
  obtain ⟨⟨hz, hb⟩, h1⟩ := h1
  refine ⟨by rw [hl]; exact hz, fun q hq => ?_⟩
  cases e : shL os with
  | some ds =>
    obtain ⟨T, A, eT, f1, f2, nT, nS⟩ := r1.tail (ts := vs.map some) (us := os) (by rw [List.length_map]; exact hl)
    have hs0 : RpSs K H1 (fun a => S a ∨ a ∈ A1) vs ds := by rw [eT]; exact RpOs.shsS f1 e
    rcases hm os ds e with e2 | e2
    · rw [e2] at h1
      obtain ⟨A5, r5, x5, s5⟩ := RelA.resT (l := l) (vs := vs) (ds := ds) r1 (by rw [List.length_map]; exact hl) hq (hc vs) hs0
      exact hQ _ _ _ ρ1 A5 h1 r5 (x1.trans x5) fun ep => ⟨(p1 ep).1, Same.trans (p1 ep).2 s5⟩
    · rw [e2] at h1
      obtain ⟨A5, r5, x5, s5⟩ := RelA.resO (l := l) (vs := vs) (ds := ds) r1 (by rw [List.length_map]; exact hl) hq (hc vs) hs0
      exact hQ _ _ _ ρ1 A5 h1 r5 (x1.trans x5) fun ep => ⟨(p1 ep).1, Same.trans (p1 ep).2 s5⟩
  | none =>
    rw [hm2 os e] at h1
    obtain ⟨r5, x5, s5⟩ := RelA.newD (l := l) (h := mkH vs) r1 hl hb hq (hc vs)
    exact hQ _ _ _ ρ1 _ h1 r5 (x1.trans x5) fun ep => ⟨(p1 ep).1, Same.trans (p1 ep).2 s5⟩
def vTup (ra : VA) : VE := fun ρ φ ε => ra ρ (fun os ρ1 => gNew mkTup os fun o => φ o ρ1) ε
def vLst (ra : VA) : VE := fun ρ φ ε => ra ρ (fun os ρ1 => gNew mkLst os fun o => φ o ρ1) ε
section
variable {X : Cx} {W : WX} {p : Bool} {es : List Expr} {ra : VA} {pos : Pos}
theorem ev_tup {x1} (ha : Av X W p es ra) : Ev X W p (.Tuple es x1 pos) (vTup ra) := by
  obtain ⟨t, ht, st⟩ := ha.ex
  refine ⟨_, pe_tup ht, snd_new (l := .tup) (mkH := HO.tup) (fun _ => rfl) (fun os ds e => .inl ?_) (fun os e => ?_) st⟩
  · unfold mkTup; rw [e]
  · unfold mkTup; rw [e]
theorem ev_lst (ha : Av X W p es ra) : Ev X W p (.List es pos) (vLst ra) := by
  obtain ⟨t, ht, st⟩ := ha.ex
  refine ⟨_, pe_lst ht, snd_new (l := .lst) (mkH := HO.lst) (fun _ => rfl) (fun os ds e => .inr ?_) (fun os e => ?_) st⟩
  · unfold mkLst; rw [e]
  · unfold mkLst; rw [e]
/-- {} with int or str keys -/
def vDnew : VE := fun ρ φ _ => φ (.ow (.dk []) []) ρ
theorem ev_dnew : Ev X W true (.Dict [] [] pos) vDnew := by
  refine ⟨_, pe_dnewK, fun S AA H σ ρ φ ε Q r l hQ h => ?_⟩
  intro q hq
  obtain ⟨r5, x5, s5⟩ := RelA.new (l := .dk []) (vs := []) (ds := []) (h := .dK []) r hq ⟨rfl, rfl⟩ .nil
  exact hQ _ _ _ ρ _ h r5 x5 fun _ => ⟨rfl, s5⟩
end
/-! ### names that are given away; constants by name -/
/-- the name's thing is frozen -/
def vFrz (i : Nat) : VE := fun ρ φ _ => frD (envAt ρ i) fun d => φ (.sh d) (ρ.set i (.sh d))
theorem snd_frz {K : PySem.W.Frag} {W : WX} (i : Nat) : SndE K W false (tVar i) (vFrz i) := by
  intro S AA H σ ρ φ ε Q r l hQ h
  obtain ⟨d, ed, h⟩ := frD_of h
  have ho : ρ[i]? = some (envAt ρ i) := by
    refine envAt_some rfl fun e => ?_
    rw [e] at ed
    cases ed
  obtain ⟨A1, r1, s1⟩ := r.freezeAt ho ed
  have ho2 : (ρ.set i (.sh d))[i]? = some (.sh d) := List.getElem?_set_self (List.getElem?_eq_some_iff.mp ho).1
  obtain ⟨x, A, e1, e2⟩ := r1.get ho2
  cases e2 with
  | @sh v _ hs =>
    exact ⟨v, e1, hQ v H _ _ A1 h (r1.push (.sh hs)) (Ext.refl.sub s1) (fun e => by cases e)⟩
section
variable {X : Cx} {W : WX}
theorem ev_frz {i : Nat} {x : Str} {pos : Pos} (h : PE X (.Name x pos) (tVar i)) : Ev X W false (.Name x pos) (vFrz i) := ⟨_, h, snd_frz i⟩
/-- the name's thing is moved away (its last use) -/
def vMove (i : Nat) : VE := fun ρ φ _ => (match envAt ρ i with
  | .top => False
  | .pin _ => False
  | o => φ o (ρ.set i .top))
theorem snd_move {K : PySem.W.Frag} {W : WX} (i : Nat) : SndE K W false (tVar i) (vMove i) := by
  intro S AA H σ ρ φ ε Q r l hQ h
  have go : ∀ o, envAt ρ i = o → o ≠ .top → (∀ v, o ≠ .pin v) → φ o (ρ.set i .top) → tVar i σ H Q := by
    intro o e n np hk
    obtain ⟨x, A1, h1, r1, s1⟩ := r.moveOut (envAt_some e n)
    obtain ⟨v, ev⟩ : ∃ v, x = some v := by
      obtain ⟨y, A, e1, e2⟩ := r1.get (i := 0) rfl
      cases e1
      cases e2 with
      | top => exact absurd rfl n
      | pin => exact ⟨_, rfl⟩
      | al => exact ⟨_, rfl⟩
      | nm _ _ => exact ⟨_, rfl⟩
      | sh _ => exact ⟨_, rfl⟩
      | ow _ _ _ => exact ⟨_, rfl⟩
      | dp _ _ _ _ => exact ⟨_, rfl⟩
      | bor _ => exact ⟨_, rfl⟩
    subst ev
    exact ⟨v, h1, hQ v H _ _ A1 hk r1 (Ext.refl.sub s1) (fun e => by cases e)⟩
  cases e : envAt ρ i with
  | top => unfold vMove at h; rw [e] at h; exact h.elim
  | pin v => unfold vMove at h; rw [e] at h; exact h.elim
  | al a p => unfold vMove at h; rw [e] at h; exact go _ e (by intro z; cases z) (by intro v z; cases z) h
  | nm a o => unfold vMove at h; rw [e] at h; exact go _ e (by intro z; cases z) (by intro v z; cases z) h
  | sh d => unfold vMove at h; rw [e] at h; exact go _ e (by intro z; cases z) (by intro v z; cases z) h
  | bor o => unfold vMove at h; rw [e] at h; exact go _ e (by intro z; cases z) (by intro v z; cases z) h
  | ow a b => unfold vMove at h; rw [e] at h; exact go _ e (by intro z; cases z) (by intro v z; cases z) h
  | dp a b => unfold vMove at h; rw [e] at h; exact go _ e (by intro z; cases z) (by intro v z; cases z) h
theorem ev_move {i : Nat} {x : Str} {pos : Pos} (h : PE X (.Name x pos) (tVar i)) : Ev X W false (.Name x pos) (vMove i) := ⟨_, h, snd_move i⟩
theorem ev_globS {x : Str} {s : Sc} {u : Value} {pos : Pos} (hm : X.mg x = some u) (r : RelV s.v u) (hg : Gl X x := by rfl) (hd : (x == ("__debug__" : Str)) = false := by decide) : Ev X W true (.Name x pos) (vC s) :=
  ⟨_, pe_glob hg hm r hd, fun S AA H σ ρ φ ε Q rel l hQ h => hQ s.v H _ ρ AA h (rel.sc s) Ext.refl fun _ => ⟨rfl, Same.refl H⟩⟩
theorem ev_bltS {x : Str} {s : Sc} {u : Value} {pos : Pos} (hm : X.mg x = none) (hv : bootBuiltins x = some u) (r : RelV s.v u) (hg : Gl X x := by rfl) (hn : x ≠ "__name__" := by decide) (hd : (x == ("__debug__" : Str)) = false := by decide) : Ev X W true (.Name x pos) (vC s) :=
  ⟨_, pe_bltn hg hm hv r hn hd, fun S AA H σ ρ φ ε Q rel l hQ h => hQ s.v H _ ρ AA h (rel.sc s) Ext.refl fun _ => ⟨rfl, Same.refl H⟩⟩
end
/-! ### calls of built-ins -/
section
variable {X : Cx} {W : WX} {p : Bool} {x : Str} {e : Expr} {es : List Expr} {ra : VA} {r : List V → Hp → L2.VK → Prop} {g : GN} {id T : String} {pp pos : Pos}
theorem ev_cb (hc : CallR X (.builtin id) r) (hs : Srv X.K r g) (ha : Av X W p (e :: es) ra) (hm : X.mg x = none) (hv : bootBuiltins x = some (.builtin id)) (hg : Gl X x := by rfl) (hn : x ≠ "__name__" := by decide) (hdb : (x == ("__debug__" : Str)) = false := by decide)
    (he : starEach (e :: es) X.env = (false, eval e X.env) :: starEach es X.env := by rfl) (hpl : (PySem.backTo pos (starEach es X.env)).any (·.1) = false := by rfl) : Ev X W p (.Call (.Name x pp) (e :: es) [] pos) (vArg g ra) := by
  obtain ⟨t, ht, st⟩ := ha.ex
  exact ⟨_, pe_callB hc hg hm hv ht hn hdb he hpl, snd_arg hs st⟩
theorem ev_cty (hc : CallR X (.type T) r) (hs : Srv X.K r g) (ha : Av X W p (e :: es) ra) (hm : X.mg x = none) (hv : bootBuiltins x = some (.type T)) (hg : Gl X x := by rfl) (hn : x ≠ "__name__" := by decide) (hdb : (x == ("__debug__" : Str)) = false := by decide)
    (he : starEach (e :: es) X.env = (false, eval e X.env) :: starEach es X.env := by rfl) (hpl : (PySem.backTo pos (starEach es X.env)).any (·.1) = false := by rfl) : Ev X W p (.Call (.Name x pp) (e :: es) [] pos) (vArg g ra) := by
  obtain ⟨t, ht, st⟩ := ha.ex
  exact ⟨_, pe_callTy hc hg hm hv ht hn hdb he hpl, snd_arg hs st⟩
end
/-! len -/
def rLen (K : PySem.W.Frag) : List V → Hp → L2.VK → Prop := fun xs H Q => (∃ x n, xs = [x] ∧ LenV K x H n ∧ Q (.int n) H) ∨ ∃ a kvs, xs = [.ref a] ∧ Rd H a (.dK kvs) ∧ Q (.int kvs.length) H
theorem CallR.or {X : Cx} {f : Value} {r r' : List V → Hp → L2.VK → Prop} (h : CallR X f r) (h' : CallR X f r') : CallR X f (fun xs H Q => r xs H Q ∨ r' xs H Q) := by
  intro pins s σ H xs us Q I rv q
  rcases q with q | q
  · exact h pins s σ H xs us Q I rv q
  · exact h' pins s σ H xs us Q I rv q
theorem call_lenU {X : Cx} : CallR X (.builtin "len") (rLen X.K) := CallR.or call_len (by
  intro pins s σ H xs us Q I rv q
  obtain ⟨a, kvs, rfl, hr, q⟩ := q
  rw [Vals.ref1 rv]
  exact d_len I hr fun t s' I' => ⟨.int kvs.length, H, I', ⟨_, rfl⟩, q⟩)
def lenOf (a : O) : Option Nat := match partsOf a with
  | some (.dk _, os) => some os.length
  | some (l, os) => if isSeqL l = true then some os.length else none
  | none => match view a with
    | some (.sc (.str z)) => if z.length ≤ sizeLine then some z.length else none
    | _ => none
def gLen (a : O) (k : O → Prop) : Prop := match lenOf a with
  | some n => k (.sh (.sc (.int n)))
  | none => False
theorem sr_len {K : PySem.W.Frag} : Srv K (rLen K) (gn1 gLen) := by
  intro S AA H vs os xs us k Q r hl hQ hg
  obtain ⟨a, rfl⟩ : ∃ a, os = [a] := by
    rcases os with _ | ⟨a, _ | ⟨b, os⟩⟩
    · exact (show False from hg).elim
    · exact ⟨a, rfl⟩
    · exact (show False from hg).elim
  obtain ⟨x, rfl⟩ := len1 hl
  replace r : RelA K S AA H (some x :: xs) (a :: us) := r
  have hg : gLen a k := hg
  unfold gLen at hg
  cases el : lenOf a with
  | none => rw [el] at hg; exact hg.elim
  | some n =>
    rw [el] at hg
    obtain ⟨A5, r5, x5, s5⟩ := RelA.resS (.int n) (ts := [some x]) (us := [a]) r rfl
    have fin : Q (.int n) H := hQ _ H _ A5 hg r5 x5 s5
    unfold lenOf at el
    cases ep : partsOf a with
    | none =>
      simp only [ep] at el
      split at el
      next z ev =>
        split at el
        next hz =>
          cases el
          have rd := r.read1 ev
          exact .inl ⟨x, _, rfl, by rw [rd.scv]; exact ⟨hz, rfl⟩, fin⟩
        · cases el
      · cases el
    | some lp =>
      obtain ⟨l, ps⟩ := lp
      obtain ⟨q, ws, A', ev, hsh, hps⟩ := r.partsAt (i := 0) rfl rfl ep
      have hl2 : ws.length = ps.length := by have := hps.length; rwa [List.length_map] at this
      cases l with
      | dk ks =>
        simp only [ep] at el
        cases el
        obtain ⟨hk, hr⟩ := hsh.rdK
        refine .inr ⟨q, _, by rw [ev], hr, ?_⟩
        rw [List.length_zip, hk, Nat.min_self, hl2]
        exact fin
      | lst =>
        simp only [ep, isSeqL, if_true] at el
        cases el
        exact .inl ⟨x, _, rfl, by rw [ev]; exact .inl ⟨ws, hsh.seqL, rfl⟩, by rw [hl2]; exact fin⟩
      | fzl =>
        simp only [ep, isSeqL, if_true] at el
        cases el
        exact .inl ⟨x, _, rfl, by rw [ev]; exact .inl ⟨ws, hsh.seqF, rfl⟩, by rw [hl2]; exact fin⟩
      | tup =>
        simp only [ep, isSeqL, if_true] at el
        cases el
        exact .inl ⟨x, _, rfl, by rw [ev]; exact .inr ⟨ws, hsh.seqT, rfl⟩, by rw [hl2]; exact fin⟩
      | dt ks => simp [ep, isSeqL] at el
      | obj C fs => simp [ep, isSeqL] at el
      | exc _ _ _ _ => simp [ep, isSeqL] at el
/-! all, any -/
def blsOf : List D → Option (List Bool)
  | [] => some []
  | .sc (.bl b) :: ds => match blsOf ds with
    | some bs => some (b :: bs)
    | none => none
  | _ :: _ => none
def intsOf : List D → Option (List Int)
  | [] => some []
  | .sc (.int b) :: ds => match intsOf ds with
    | some bs => some (b :: bs)
    | none => none
  | _ :: _ => none
theorem blsOf_of {K : PySem.W.Frag} {H : Hp} {B : Addr → Prop} : ∀ {ds : List D} {vs : List V} {bs : List Bool}, RpSs K H B vs ds → blsOf ds = some bs → vs = bs.map V.bl
  | [], _, _, h, e => by cases h; cases e; rfl
  | .sc (.bl b) :: ds, _, bs, h, e => by
    cases h with
    | cons h1 h2 =>
      have e0 : (match blsOf ds with | some bs => some (b :: bs) | none => none) = some bs := e
      cases e1 : blsOf ds with
      | none => rw [e1] at e0; cases e0
      | some cs =>
        rw [e1] at e0
        cases e0
        rw [blsOf_of h2 e1, h1.scv]
        rfl
  | .sc .non :: _, _, _, _, e => by cases e
  | .sc (.int _) :: _, _, _, _, e => by cases e
  | .sc (.str _) :: _, _, _, _, e => by cases e
  | .sc (.adr _) :: _, _, _, _, e => by cases e
  | .sc (.ty _) :: _, _, _, _, e => by cases e
  | .nd _ _ :: _, _, _, _, e => by cases e
theorem intsOf_of {K : PySem.W.Frag} {H : Hp} {B : Addr → Prop} : ∀ {ds : List D} {vs : List V} {bs : List Int}, RpSs K H B vs ds → intsOf ds = some bs → vs = bs.map V.int
  | [], _, _, h, e => by cases h; cases e; rfl
  | .sc (.int b) :: ds, _, bs, h, e => by
    cases h with
    | cons h1 h2 =>
      have e0 : (match intsOf ds with | some bs => some (b :: bs) | none => none) = some bs := e
      cases e1 : intsOf ds with
      | none => rw [e1] at e0; cases e0
      | some cs =>
        rw [e1] at e0
        cases e0
        rw [intsOf_of h2 e1, h1.scv]
        rfl
  | .sc .non :: _, _, _, _, e => by cases e
  | .sc (.bl _) :: _, _, _, _, e => by cases e
  | .sc (.str _) :: _, _, _, _, e => by cases e
  | .sc (.adr _) :: _, _, _, _, e => by cases e
  | .sc (.ty _) :: _, _, _, _, e => by cases e
  | .nd _ _ :: _, _, _, _, e => by cases e
/-- a list's items, readable -/
def lstOf (a : O) (k : List D → Prop) : Prop := vw a fun d => match seqOf .lst d with
  | some ds => k ds
  | none => False
def gBls (f : List Bool → Bool) (a : O) (k : O → Prop) : Prop := lstOf a fun ds => match blsOf ds with
  | some bs => k (.sh (.sc (.bl (f bs))))
  | none => False
theorem srv1 {K : PySem.W.Frag} {rd : List V → Hp → L2.VK → Prop} {g : O → (O → Prop) → Prop} (h : Sr1 K (fun x H Q => rd [x] H Q) g) : Srv K rd (gn1 g) := by
  intro S AA H vs os xs us k Q r hl hQ hg
  obtain ⟨a, rfl⟩ : ∃ a, os = [a] := by
    rcases os with _ | ⟨a, _ | ⟨b, os⟩⟩
    · exact (show False from hg).elim
    · exact ⟨a, rfl⟩
    · exact (show False from hg).elim
  obtain ⟨x, rfl⟩ := len1 hl
  exact h S AA H x a xs us k Q r (fun v H' o hk ⟨AA', q1, q2, q3⟩ => hQ v H' o AA' hk q1 q2 q3) hg
theorem srv2 {K : PySem.W.Frag} {rd : List V → Hp → L2.VK → Prop} {g : O → O → (O → Prop) → Prop} (h : Sr2 K (fun x y H Q => rd [x, y] H Q) g) : Srv K rd (gn2 g) := by
  intro S AA H vs os xs us k Q r hl hQ hg
  obtain ⟨a, b, rfl⟩ : ∃ a b, os = [a, b] := by
    rcases os with _ | ⟨a, _ | ⟨b, _ | ⟨c, os⟩⟩⟩
    · exact (show False from hg).elim
    · exact (show False from hg).elim
    · exact ⟨a, b, rfl⟩
    · exact (show False from hg).elim
  obtain ⟨x, y, rfl⟩ := len2 hl
  exact h S AA H x y a b xs us k Q r (fun v H' o hk ⟨AA', q1, q2, q3⟩ => hQ v H' o AA' hk q1 q2 q3) hg
theorem lstOf_of {K : PySem.W.Frag} {S : Addr → Prop} {AA : List Addr} {H : Hp} {x : V} {a : O} {xs : List (Option V)} {us : List O} {k : List D → Prop} (r : RelA K S AA H (some x :: xs) (a :: us)) (h : lstOf a k) : ∃ ds p vs, x = .ref p ∧ SqL K H p vs ∧ RpSs K H NB vs ds ∧ k ds := by
  obtain ⟨d, e1, h⟩ := vw_of h
  cases es : seqOf .lst d with
  | none => rw [es] at h; exact h.elim
  | some ds =>
    rw [es] at h
    obtain ⟨p, vs, ev, hq, hs⟩ := (r.read1 e1).seqL es
    exact ⟨ds, p, vs, ev, hq, hs, h⟩
theorem sr_all {K : PySem.W.Frag} : Srv K (rAll K) (gn1 (gBls fun bs => bs.all id)) := srv1 (by
  intro S AA H x a xs us k Q r hQ h
  obtain ⟨ds, p, vs, ev, hq, hs, h⟩ := lstOf_of r h
  cases e2 : blsOf ds with
  | none => rw [e2] at h; exact h.elim
  | some bs =>
    rw [e2] at h
    rw [blsOf_of hs e2] at hq
    exact ⟨p, bs, by rw [ev], hq, hQ _ H _ h (RelA.resS (.bl _) (ts := [_]) (us := [_]) r rfl)⟩)
theorem sr_any {K : PySem.W.Frag} : Srv K (rAny K) (gn1 (gBls fun bs => bs.any id)) := srv1 (by
  intro S AA H x a xs us k Q r hQ h
  obtain ⟨ds, p, vs, ev, hq, hs, h⟩ := lstOf_of r h
  cases e2 : blsOf ds with
  | none => rw [e2] at h; exact h.elim
  | some bs =>
    rw [e2] at h
    rw [blsOf_of hs e2] at hq
    exact ⟨p, bs, by rw [ev], hq, hQ _ H _ h (RelA.resS (.bl _) (ts := [_]) (us := [_]) r rfl)⟩)
def gSum (a : O) (k : O → Prop) : Prop := lstOf a fun ds => match intsOf ds with
  | some bs => k (.sh (.sc (.int bs.sum)))
  | none => False
/-! int, str, abs, min, max of two -/
def gInt1 (a : O) (k : O → Prop) : Prop := vw a fun d => match d with
  | .sc (.int i) => k (.sh (.sc (.int i)))
  | .sc (.bl b) => k (.sh (.sc (.int (if b then 1 else 0))))
  | .sc (.str x) => match PySem.intText? x with
    | some n => x.length ≤ 640 ∧ k (.sh (.sc (.int n)))
    | none => False
  | _ => False
def rInt1 : List V → Hp → L2.VK → Prop := fun xs H Q => ((∃ i, xs = [.int i] ∧ Q (.int i) H) ∨ ∃ k, xs = [.bl k] ∧ Q (.int (if k then 1 else 0)) H) ∨ (∃ a n, xs = [.str a] ∧ PySem.intText? a = some n ∧ a.length ≤ 640 ∧ Q (.int n) H)
theorem call_int1U {X : Cx} : CallR X (.type "int") rInt1 := CallR.or call_int1 call_int_str
theorem sr_int1 {K : PySem.W.Frag} : Srv K rInt1 (gn1 gInt1) := srv1 (by
  intro S AA H x a xs us k Q r hQ h
  obtain ⟨d, e1, h⟩ := vw_of h
  have rd := r.read1 e1
  split at h
  · exact .inl (.inl ⟨_, by rw [rd.scv]; rfl, hQ _ H _ h (RelA.resS (.int _) (ts := [_]) (us := [_]) r rfl)⟩)
  · exact .inl (.inr ⟨_, by rw [rd.scv]; rfl, hQ _ H _ h (RelA.resS (.int _) (ts := [_]) (us := [_]) r rfl)⟩)
  · split at h
    next n en => exact .inr ⟨_, n, by rw [rd.scv]; rfl, en, h.1, hQ _ H _ h.2 (RelA.resS (.int _) (ts := [_]) (us := [_]) r rfl)⟩
    · exact h.elim
  · exact h.elim)
def gStr1 (a : O) (k : O → Prop) : Prop := vw a fun d => match d with
  | .sc (.int i) => i.natAbs.log2 < 1920 ∧ k (.sh (.sc (.str (toString i))))
  | .sc (.str x) => k (.sh (.sc (.str x)))
  | _ => False
def rStr1 : List V → Hp → L2.VK → Prop := fun xs H Q => (∃ i, xs = [.int i] ∧ i.natAbs.log2 < 1920 ∧ Q (.str (toString i)) H) ∨ ∃ a, xs = [.str a] ∧ Q (.str a) H
theorem call_str1U {X : Cx} : CallR X (.type "str") rStr1 := CallR.or call_str_int SkE.call_str_str
theorem sr_str1 {K : PySem.W.Frag} : Srv K rStr1 (gn1 gStr1) := srv1 (by
  intro S AA H x a xs us k Q r hQ h
  obtain ⟨d, e1, h⟩ := vw_of h
  have rd := r.read1 e1
  split at h
  · exact .inl ⟨_, by rw [rd.scv]; rfl, h.1, hQ _ H _ h.2 (RelA.resS (.str _) (ts := [_]) (us := [_]) r rfl)⟩
  · exact .inr ⟨_, by rw [rd.scv]; rfl, hQ _ H _ h (RelA.resS (.str _) (ts := [_]) (us := [_]) r rfl)⟩
  · exact h.elim)
def gI1 (f : Int → Int) (a : O) (k : O → Prop) : Prop := vw a fun d => match d with
  | .sc (.int i) => k (.sh (.sc (.int (f i))))
  | _ => False
theorem sr_abs {K : PySem.W.Frag} : Srv K (fun xs H Q => ∃ i, xs = [V.int i] ∧ Q (.int (if i < 0 then -i else i)) H) (gn1 (gI1 fun i => if i < 0 then -i else i)) := srv1 (by
  intro S AA H x a xs us k Q r hQ h
  obtain ⟨d, e1, h⟩ := vw_of h
  have rd := r.read1 e1
  split at h
  · exact ⟨_, by rw [rd.scv]; rfl, hQ _ H _ h (RelA.resS (.int _) (ts := [_]) (us := [_]) r rfl)⟩
  · exact h.elim)
def gI2 (f : Int → Int → Int) (a b : O) (k : O → Prop) : Prop := vw a fun d => vw b fun e => match d, e with
  | .sc (.int i), .sc (.int j) => k (.sh (.sc (.int (f i j))))
  | _, _ => False
theorem sr_i2 {K : PySem.W.Frag} {f : Int → Int → Int} : Srv K (fun xs H Q => ∃ i j, xs = [V.int i, V.int j] ∧ Q (.int (f i j)) H) (gn2 (gI2 f)) := srv2 (by
  intro S AA H x y a b xs us k Q r hQ h
  obtain ⟨d, e1, h⟩ := vw_of h
  obtain ⟨e, e2, h⟩ := vw_of h
  obtain ⟨p1, p2⟩ := r.two e1 e2
  split at h
  · exact ⟨_, _, by rw [p1.scv, p2.scv]; rfl, hQ _ H _ h (RelA.resS (.int _) (ts := [_, _]) (us := [_, _]) r rfl)⟩
  · exact h.elim)
/-! list(x) -/
def gList1 (a : O) (k : O → Prop) : Prop := match kids a with
  | some (l, ds) => isSeqL l = true ∧ k (.ow .lst ds)
  | none => False
theorem sr_list1 {K : PySem.W.Frag} : Srv K (fun xs H Q => ∃ p ys, xs = [V.ref p] ∧ (SqL K H p ys ∨ SqT K H p ys) ∧ ∀ l, H l = none → Q (.ref l) (upd H l (.lst ys))) (gn1 gList1) := srv1 (by
  intro S AA H x a xs us k Q r hQ h
  unfold gList1 at h
  split at h
  next l ds hk =>
    obtain ⟨hl, h⟩ := h
    obtain ⟨p, vs, e1, s1, c1⟩ := r.kidsAt (i := 0) rfl rfl hk
    refine ⟨p, vs, by rw [e1], ?_, fun q hq => hQ _ _ _ h (RelA.resO (l := .lst) (ts := [_]) (us := [_]) r rfl hq rfl c1)⟩
    cases l with
    | lst => exact .inl s1.seqL
    | fzl => exact .inl s1.seqF
    | tup => exact .inr s1.seqT
    | _ => cases hl
  · exact h.elim)
/-! isinstance(x, a built-in type) -/
def tyName : D → Option String
  | .sc .non => some "NoneType"
  | .sc (.bl _) => some "bool"
  | .sc (.int _) => some "int"
  | .sc (.str _) => some "str"
  | .nd .lst _ => some "list"
  | .nd .fzl _ => some "list"
  | .nd .tup _ => some "tuple"
  | .nd (.dk _) _ => some "dict"
  | _ => none
def isTy (t n : String) : Bool := t == n || (t == "bool" && n == "int")
def knownTy (n : String) : Bool := ["int", "bool", "str", "list", "tuple", "dict"].contains n
theorem kitB_of : ∀ t ∈ ["NoneType", "bool", "int", "str", "list", "tuple", "dict"], ∀ n ∈ ["int", "bool", "str", "list", "tuple", "dict"], kitB t n = some (isTy t n) := by decide +kernel
theorem tyName_mem {d : D} {t : String} (h : tyName d = some t) : t ∈ ["NoneType", "bool", "int", "str", "list", "tuple", "dict"] := by
  unfold tyName at h
  split at h <;> first | (cases h; decide) | cases h
theorem tyX_of {K : PySem.W.Frag} {H : Hp} {B : Addr → Prop} {v : V} {d : D} {t : String} (h : RpS K H B v d) (e : tyName d = some t) : TyX K H v (.type t) := by
  cases h with
  | sc s =>
    cases s <;> first | (cases e; exact .base .non) | (cases e; exact .base (.bl _)) | (cases e; exact .base (.int _)) | (cases e; exact .base (.str _)) | cases e
  | @nd a l vs ds h1 h2 =>
    cases l with
    | lst => cases e; exact .base (.lst h1.lstAt)
    | fzl =>
      cases e
      rcases h1 with ⟨_, u, r, c⟩ | h1
      · rcases c with ⟨o, c⟩ | ⟨_, _, _, _, c⟩
        · rw [c] at r; exact .base (.frz r)
        · cases c
      · obtain ⟨o, its, n, h1, h2, _⟩ := h1
        exact .kList h1 h2
    | tup =>
      cases e
      rcases h1 with ⟨_, u, r, c⟩ | h1
      · rcases c with c | ⟨_, _, _, _, c⟩
        · have c' : u = .tup vs := c
          rw [c'] at r; exact .base (.tup r)
        · cases c
      · obtain ⟨o, its, n, h1, h2, _⟩ := h1
        exact .kTuple h1 h2
    | dk ks =>
      cases e
      obtain ⟨_, r⟩ := h1.rdK
      rcases r with r | ⟨o, r⟩
      · exact .base (.dK r)
      · exact .fDict r
    | dt ks => cases e
    | obj C fs => cases e
    | exc _ _ _ _ => cases e
def gIsi (a b : O) (k : O → Prop) : Prop := vw a fun d => match b with
  | .sh (.sc (.ty n)) => match tyName d with
    | some t => knownTy n = true ∧ k (.sh (.sc (.bl (isTy t n))))
    | none => False
  | _ => False
theorem sr_isi {K : PySem.W.Frag} : Srv K (rIsi K) (gn2 gIsi) := srv2 (by
  intro S AA H x y a b xs us k Q r hQ h
  obtain ⟨d, e1, h⟩ := vw_of h
  have p1 := r.read1 e1
  obtain ⟨n, rfl, h⟩ : ∃ n, b = .sh (.sc (.ty n)) ∧ match tyName d with
    | some t => knownTy n = true ∧ k (.sh (.sc (.bl (isTy t n))))
    | none => False := by
    split at h
    · exact ⟨_, rfl, h⟩
    · exact h.elim
  · have p2 := r.read2 (d := .sc (.ty n)) rfl
    cases et : tyName d with
    | none => rw [et] at h; exact h.elim
    | some t =>
      rw [et] at h
      refine ⟨x, y, .type t, .type n, isTy t n, rfl, ?_, tyX_of p1 et, ?_, hQ _ H _ h.2 (RelA.resS (.bl _) (ts := [_, _]) (us := [_, _]) r rfl)⟩
      · rw [p2.scv]
        exact .ty n
      · exact kit_ty (kitB_of t (tyName_mem et) n (List.contains_iff_mem.mp h.1)))

/-! repr -/
def rRepr (K : PySem.W.Frag) : List V → Hp → L2.VK → Prop := fun xs H Q => ∃ x p, xs = [x] ∧ Dp K H x p ∧ (p.showable = true ∧ p.hasDict = false ∧ p.depth ≤ 64 ∧ p.shown.length ≤ sizeLine) ∧ Q (.str p.shown) H
theorem call_repr {X : Cx} {k : Nat} (hr : Room k X.A) (g : X.A.guards = some []) : CallR X (.builtin "repr") (rRepr X.K) := by
  intro pins s σ H xs us Q I rv h
  obtain ⟨x, p, rfl, hd, ⟨h1, h2, h3, h4⟩, q⟩ := h
  obtain ⟨u, rfl, ru⟩ := rv.one
  have hu := hr.un
  have sc : ∀ {u : Value}, (∀ {Q : Value → Shared → Prop}, (∀ t t', Q (.str p.shown t) { s with toks := t' }) → wpAny (model X.prog X.w) X.A (call (.builtin "repr") [u]) Q X.xe s) → wpAny (model X.prog X.w) X.A (call (.builtin "repr") [u]) (EP X pins σ Q) X.xe s :=
    fun hw => hw fun t t' => ⟨.str p.shown, H, I.tok t', ⟨t, rfl⟩, q⟩
  have ref : ∀ {a : Addr}, x = .ref a → wpAny (model X.prog X.w) X.A (call (.builtin "repr") [u]) (EP X pins σ Q) X.xe s := by
    intro a e
    subst e
    obtain ⟨as, rd⟩ := Dp.reads I p _ u hd ru
    cases (show u = Value.ref a from ru)
    refine PySem.repr_of_reads' rd h1 (fun e => by rw [h2] at e; cases e) g (by omega) (fun b o e => e) (fun h' t tk hk => ?_) h4
    exact ⟨.str p.shown, H, I.kept (t' := tk) hk, ⟨t, rfl⟩, q⟩
  cases hd with
  | non => cases (show u = Value.none from ru); exact PySem.P.repr_of_none ⟨.str _, H, I.tok _, ⟨_, rfl⟩, q⟩
  | bl b => cases (show u = Value.bool b from ru); exact PySem.P.repr_of_bool ⟨.str _, H, I.tok _, ⟨_, rfl⟩, q⟩
  | int i =>
    obtain ⟨t, e⟩ := (show ∃ t, u = Value.int i t from ru)
    subst e
    refine PySem.P.repr_of_int ?_ ⟨.str _, H, I.tok _, ⟨_, rfl⟩, q⟩
    exact of_decide_eq_true h1
  | str z =>
    obtain ⟨t, e⟩ := (show ∃ t, u = Value.str z t from ru)
    subst e
    exact PySem.P.repr_of_str ⟨.str _, H, I.tok _, ⟨_, rfl⟩, q⟩ h4
  | lst _ _ => exact ref rfl
  | tup _ _ => exact ref rfl
def gRepr (a : O) (k : O → Prop) : Prop := vw a fun d => match toPy d with
  | some p => (p.showable = true ∧ p.hasDict = false ∧ p.depth ≤ 64 ∧ p.shown.length ≤ sizeLine) ∧ k (.sh (.sc (.str p.shown)))
  | none => False
theorem sr_repr {K : PySem.W.Frag} : Srv K (rRepr K) (gn1 gRepr) := srv1 (by
  intro S AA H x a xs us k Q r hQ h
  obtain ⟨d, e1, h⟩ := vw_of h
  cases et : toPy d with
  | none => rw [et] at h; exact h.elim
  | some p =>
    rw [et] at h
    exact ⟨x, p, rfl, dp_of d (r.read1 e1) et, h.1, hQ _ H _ h.2 (RelA.resS (.str _) (ts := [_]) (us := [_]) r rfl)⟩)
end VL

namespace VL
open PySem PySem.Spec L2

section
variable {K : PySem.W.Frag} {S : Addr → Prop} {AA : List Addr} {H : Hp}
/-- the first root's cell is rewritten -/
theorem RelA.rw1 {a : Addr} {h' : HO} {l l' : Lab} {vs' : List V} {ds ds' : List D} {xs : List (Option V)} {os : List O} (r : RelA K S AA H (some (.ref a) :: xs) (.ow l ds :: os)) (hc : cellIs l' vs' h') (hs : RpSs K H (fun a => S a ∨ a ∈ AA) vs' ds') :
    RelA K S AA (upd H a h') (some (.ref a) :: xs) (.ow l' ds' :: os.map kill) ∧ Ext AA H AA (upd H a h') := by
  have h0 := r.rp
  have nd := r.nd
  have ns := r.ns
  have st := r.st
  generalize hB : (fun a => S a ∨ a ∈ AA) = B at h0 hs
  cases h0 with
  | @cons _ _ _ _ A0 A1 h1 h2 =>
    cases h1 with
    | ow c1 c2 c3 =>
      subst hB
      have k : Keep H (upd H a h') (fun b => S b ∨ b ∈ [a] ++ A1) (fun b => S b ∨ b ∈ [a] ++ A1) := by
        intro b u nb e
        refine ⟨nb, u, ?_, .inl rfl⟩
        rw [upd_ne (fun z => nb (.inr (by rw [z]; exact List.mem_cons_self)))]
        exact e
      have nD : a ∉ A1 := (List.nodup_cons.mp nd).1
      refine ⟨⟨RpOs.cons (A := [a]) (.ow upd_same hc (hs.keep k)) (h2.killed k os fun b hb => upd_ne fun z => nD (z ▸ hb)), nd, ns, fun b hb => ?_⟩, fun b u e => ?_, fun b hb => .inr hb⟩
      · obtain ⟨u, e⟩ := st b hb
        by_cases z : b = a
        · rw [z]; exact ⟨_, upd_same⟩
        · exact ⟨u, by rw [upd_ne z]; exact e⟩
      · by_cases z : b = a
        · rw [z]
          exact ⟨_, upd_same, fun n => absurd List.mem_cons_self n⟩
        · exact ⟨u, by rw [upd_ne z]; exact e, fun _ => rfl⟩
/-- the first root's cell -/
theorem RelA.cell1 {x : V} {l : Lab} {ds : List D} {xs : List (Option V)} {os : List O} (r : RelA K S AA H (some x :: xs) (.ow l ds :: os)) : ∃ a h vs, x = .ref a ∧ H a = some h ∧ cellIs l vs h ∧ RpSs K H (fun a => S a ∨ a ∈ AA) vs ds := by
  obtain ⟨y, A, e1, e2⟩ := r.get (i := 0) rfl
  cases e1
  cases e2 with
  | ow h1 h2 h3 => exact ⟨_, _, _, rfl, h1, h2, h3⟩
theorem RelA.scBehind (s : Sc) {x : Option V} {o : O} {xs : List (Option V)} {os : List O} (r : RelA K S AA H (x :: xs) (o :: os)) : ∃ AA', RelA K S AA' H (x :: some s.v :: xs) (o :: .sh (.sc s) :: os) ∧ ∀ a ∈ AA', a ∈ AA := RelA.swap (r.sc s)
theorem RelA.shBehind {v : V} {d : D} {x : Option V} {o : O} {xs : List (Option V)} {os : List O} (r : RelA K S AA H (x :: xs) (o :: os)) (h : RpS K H (fun a => S a ∨ a ∈ AA) v d) : ∃ AA', RelA K S AA' H (x :: some v :: xs) (o :: .sh d :: os) ∧ ∀ a ∈ AA', a ∈ AA := RelA.swap (r.push (.sh h))
/-- the arguments stand behind the root: they are frozen away -/
theorem RelA.fzBehind {y : V} {p : O} {d : D} {x : Option V} {o : O} {xs : List (Option V)} {os : List O} (r : RelA K S AA H (x :: some y :: xs) (o :: p :: os)) (h : fz p = some d) : ∃ A, RelA K S A H (x :: xs) (o :: os) ∧ RpS K H (fun a => S a ∨ a ∈ A) y d ∧ ∀ a ∈ A, a ∈ AA := by
  obtain ⟨A1, r1, s1⟩ := r.swap
  obtain ⟨A2, r2, h2, s2⟩ := r1.fz1 h
  exact ⟨A2, r2, h2, fun a ha => s1 a (s2 a ha)⟩
end
/-! ### methods that change the thing of a name -/
abbrev VM := O → List O → (O → O → Prop) → Prop
def MSrv (K : PySem.W.Frag) (rd : V → List V → Hp → L2.VK → Prop) (m : VM) : Prop := ∀ (S : Addr → Prop) (AA : List Addr) (H : Hp) (x : V) (vs : List V) (o : O) (os : List O) (xs : List (Option V)) (us : List O) (k : O → O → Prop) (Q : L2.VK),
  RelA K S AA H (some x :: (vs.map some ++ xs)) (o :: (os ++ us)) → vs.length = os.length → (∀ res H' ores o' AA', k ores o' → RelA K S AA' H' (some x :: some res :: xs) (o' :: ores :: us.map kill) → Ext AA H AA' H' → Q res H') → m o os k → rd x vs H Q
def ownT (T : String) (o : O) : Prop := match o with
  | .ow .lst _ => T = "list"
  | .ow (.dk _) _ => T = "dict"
  | .dp .lst _ => T = "list"
  | _ => False
/-- the thing of slot i is exchanged -/
def putE (ρ : Env) (i : Nat) (o : O) : Env := ((ρ.set i .top).map kill).set i o
def vMut (i : Nat) (T : String) (m : VM) (ra : VA) : VE := fun ρ φ ε => ownT T (envAt ρ i) ∧ ra ρ (fun os ρ1 => m (envAt ρ1 i) os fun res o' => φ res (putE ρ1 i o')) ε
theorem ownT_ty {K : PySem.W.Frag} {S : Addr → Prop} {AA : List Addr} {H : Hp} {σ : L2.St} {ρ : Env} {i : Nat} {T : String} (r : RelA K S AA H σ ρ) (h : ownT T (envAt ρ i)) : ∃ v, σ[i]? = some (some v) ∧ tyV K T v H := by
  cases e : envAt ρ i with
  | ow l cs =>
    rw [e] at h
    obtain ⟨x, A, e1, e2⟩ := r.get (envAt_some e (by intro z; cases z))
    cases l with
    | lst =>
      cases e2 with
      | ow h1 h2 h3 =>
        cases h2
        exact ⟨_, e1, .inl ⟨h, _, .inl (.inl h1)⟩⟩
    | dk ks =>
      cases e2 with
      | ow h1 h2 h3 =>
        obtain ⟨_, h2⟩ := h2
        subst h2
        exact ⟨_, e1, .inr (.inr (.inl ⟨h, .inl ⟨_, h1⟩⟩))⟩
    | _ => exact h.elim
  | dp l cs =>
    rw [e] at h
    obtain ⟨x, A, e1, e2⟩ := r.get (envAt_some e (by intro z; cases z))
    cases l with
    | lst =>
      cases e2 with
      | dp h1 h2 h3 h4 =>
        cases h2
        exact ⟨_, e1, .inl ⟨h, _, .inl (.inl h1)⟩⟩
    | _ => exact h.elim
  | _ => rw [e] at h; exact h.elim
/-- the thing of a slot comes ahead of the temps -/
theorem RelA.slotOut {K : PySem.W.Frag} {S : Addr → Prop} {AA : List Addr} {H : Hp} {vs : List V} {os : List O} {σ : L2.St} {ρ : Env} {i : Nat} {v : V} {o : O} (r : RelA K S AA H (vs.map some ++ σ) (os ++ ρ)) (hl : vs.length = os.length) (hv : σ[i]? = some (some v)) (ho : ρ[i]? = some o) :
    ∃ AA', RelA K S AA' H (some v :: (vs.map some ++ σ)) (o :: (os ++ ρ.set i .top)) ∧ ∀ a ∈ AA', a ∈ AA := by
  have e1 : (os ++ ρ)[os.length + i]? = some o := by
    rw [List.getElem?_append_right (Nat.le_add_right _ _), Nat.add_sub_cancel_left]
    exact ho
  obtain ⟨x, A1, hx, r1, s1⟩ := r.moveOut e1
  have e2 : (vs.map some ++ σ)[os.length + i]? = some (some v) := by
    rw [← hl, List.getElem?_append_right (by rw [List.length_map]; exact Nat.le_add_right _ _), List.length_map, Nat.add_sub_cancel_left]
    exact hv
  rw [e2] at hx
  cases hx
  rw [List.set_append_right _ _ (Nat.le_add_right _ _), Nat.add_sub_cancel_left] at r1
  exact ⟨A1, r1, s1⟩
theorem RelA.slotBack {K : PySem.W.Frag} {S : Addr → Prop} {AA : List Addr} {H : Hp} {σ : L2.St} {ρ : Env} {i : Nat} {v : V} {o : O} {x : Option V} {u : O} (r : RelA K S AA H (some v :: x :: σ) (o :: u :: ρ)) (hv : σ[i]? = some (some v)) :
    ∃ AA', RelA K S AA' H (x :: σ) (u :: ρ.set i o) ∧ ∀ a ∈ AA', a ∈ AA := by
  obtain ⟨A1, r1, s1⟩ := r.store (i + 1)
  have e : (x :: σ).set (i + 1) (some v) = x :: σ := by
    show x :: σ.set i (some v) = _
    rw [set_self hv]
  rw [e] at r1
  exact ⟨A1, r1, s1⟩
theorem snd_mut {K : PySem.W.Frag} {W : WX} {p : Bool} {i : Nat} {T : String} {rd : V → List V → Hp → L2.VK → Prop} {m : VM} {t : TA} {ra : VA} (hm : MSrv K rd m) (ha : SndA K W p t ra) : SndE K W false (tBM K T rd (tVar i) t) (vMut i T m ra) := by
  intro S AA H σ ρ φ ε Q r l hQ h
  obtain ⟨h0, h⟩ := h
  obtain ⟨v, hv, ty⟩ := ownT_ty r h0
  refine ⟨v, hv, ty, ?_⟩
  refine ha S AA H σ ρ _ ε _ r l (fun vs H1 os ρ1 A1 h1 hl r1 x1 p1 => ?_) h
  have len : σ.length = ρ1.length := by
    have a := r1.len
    simp only [List.length_append, List.length_map] at a
    omega
  have ho : ρ1[i]? = some (envAt ρ1 i) := by
    unfold envAt
    rw [List.getElem?_eq_getElem (by rw [← len]; exact (List.getElem?_eq_some_iff.mp hv).1)]
    rfl
  obtain ⟨A2, r2, s2⟩ := r1.slotOut hl hv ho
  refine hm S A2 H1 v vs _ os σ (ρ1.set i .top) _ _ r2 hl (fun res H' ores o' AA' hk r3 x3 => ?_) h1
  obtain ⟨A4, r4, s4⟩ := r3.slotBack hv
  exact hQ res H' ores _ A4 hk r4 ((x1.sub s2).trans (x3.sub s4)) (fun e => by cases e)
theorem snd_mut0 {K : PySem.W.Frag} {W : WX} {i : Nat} {T : String} {rd : V → List V → Hp → L2.VK → Prop} {m : VM} (hm : MSrv K rd m) : SndE K W false (tBM0 K T rd (tVar i)) (vMut i T m vNil) := by
  intro S AA H σ ρ φ ε Q r l hQ h
  exact snd_mut (T := T) hm (snd_nil (W := W)) S AA H σ ρ φ ε Q r l hQ h
section
variable {K : PySem.W.Frag}
def mAppend : VM := fun o os k => match o, os with
  | .ow .lst ds, [a] => frD a fun d => ds.length < sizeLine ∧ k (.sh (.sc .non)) (.ow .lst (ds ++ [d]))
  | _, _ => False
theorem ms_append : MSrv K rAppend mAppend := by
  intro S AA H x vs o os xs us k Q r hl hQ h
  unfold mAppend at h
  split at h
  next ds a =>
    obtain ⟨y, rfl⟩ := len1 hl
    obtain ⟨d, ed, hz, h⟩ := frD_of h
    obtain ⟨A1, r1, hy, s1⟩ := RelA.fzBehind (xs := xs) (os := us) r ed
    obtain ⟨q, hh, ws, rfl, c1, c2, c3⟩ := r1.cell1
    cases c2
    obtain ⟨r2, x2⟩ := r1.rw1 (l' := .lst) (vs' := ws ++ [y]) (h' := .lst (ws ++ [y])) rfl (c3.app (.cons hy .nil))
    obtain ⟨A3, r3, s3⟩ := r2.scBehind .non
    exact ⟨q, ws, y, rfl, rfl, c1, by rw [c3.len]; exact hz, hQ _ _ _ _ A3 h r3 ((Ext.refl.sub s1).trans (x2.sub s3))⟩
  · exact h.elim
def mPop : VM := fun o os k => match o, os with
  | .ow .lst ds, [] => match ds[ds.length - 1]? with
    | some d => k (.sh d) (.ow .lst ds.dropLast)
    | none => False
  | _, _ => False
theorem RpSs.dropLast {H : Hp} {B : Addr → Prop} {vs : List V} {ds : List D} (h : RpSs K H B vs ds) : RpSs K H B vs.dropLast ds.dropLast := by
  rw [List.dropLast_eq_take, List.dropLast_eq_take, h.len]
  exact h.take_ _
theorem RpSs.eraseIdx {H : Hp} {B : Addr → Prop} {vs : List V} {ds : List D} (h : RpSs K H B vs ds) (i : Nat) : RpSs K H B (vs.eraseIdx i) (ds.eraseIdx i) := by
  rw [List.eraseIdx_eq_take_drop_succ, List.eraseIdx_eq_take_drop_succ]
  exact (h.take_ _).app (h.drop_ _)
theorem RpSs.reverse {H : Hp} {B : Addr → Prop} {vs : List V} {ds : List D} (h : RpSs K H B vs ds) : RpSs K H B vs.reverse ds.reverse := by
  induction ds generalizing vs with
  | nil => cases h; exact .nil
  | cons d ds ih =>
    cases h with
    | cons h1 h2 =>
      rw [List.reverse_cons, List.reverse_cons]
      exact (ih h2).app (.cons h1 .nil)
theorem RpSs.set_ {H : Hp} {B : Addr → Prop} {vs : List V} {ds : List D} {v : V} {d : D} (h : RpSs K H B vs ds) (hv : RpS K H B v d) (i : Nat) : RpSs K H B (vs.set i v) (ds.set i d) := by
  induction ds generalizing vs i with
  | nil => cases h; exact .nil
  | cons e ds ih =>
    cases h with
    | cons h1 h2 =>
      cases i with
      | zero => exact .cons hv h2
      | succ i => exact .cons h1 (ih h2 i)
/-- the list is exchanged, an item comes out -/
theorem RelA.popped {S : Addr → Prop} {AA : List Addr} {H : Hp} {q : Addr} {y : V} {d : D} {ws' : List V} {ds ds' : List D} {xs : List (Option V)} {us : List O} (r : RelA K S AA H (some (.ref q) :: xs) (.ow .lst ds :: us)) (hy : RpS K H (fun a => S a ∨ a ∈ AA) y d)
    (hs : RpSs K H (fun a => S a ∨ a ∈ AA) ws' ds') : ∃ AA', RelA K S AA' (upd H q (.lst ws')) (some (.ref q) :: some y :: xs) (.ow .lst ds' :: .sh d :: us.map kill) ∧ Ext AA H AA' (upd H q (.lst ws')) := by
  obtain ⟨A1, r1, s1⟩ := r.shBehind hy
  obtain ⟨r2, x2⟩ := r1.rw1 (l' := .lst) (h' := .lst ws') rfl (hs.sub s1)
  exact ⟨_, r2, (Ext.refl.sub s1).trans x2⟩
theorem ms_pop : MSrv K rPop mPop := by
  intro S AA H x vs o os xs us k Q r hl hQ h
  unfold mPop at h
  split at h
  next ds =>
    obtain rfl : vs = [] := List.length_eq_zero_iff.mp hl
    split at h
    next d ed =>
      replace r : RelA K S AA H (some x :: xs) (.ow .lst ds :: us) := r
      obtain ⟨q, hh, ws, rfl, c1, c2, c3⟩ := r.cell1
      cases c2
      obtain ⟨y, ey, hy⟩ := c3.at_ ed
      rw [← c3.len] at ey
      obtain ⟨A2, r2, x2⟩ := r.popped hy c3.dropLast
      exact ⟨q, ws, y, rfl, rfl, c1, ey, hQ _ _ _ _ A2 h r2 x2⟩
    · exact h.elim
  · exact h.elim
def mPopAt : VM := fun o os k => match o, os with
  | .ow .lst ds, [.sh (.sc (.int i))] => (-(2 ^ 63) ≤ i ∧ i < 2 ^ 63) ∧ match seqIndex? i ds.length with
    | some j => match ds[j]? with
      | some d => k (.sh d) (.ow .lst (ds.eraseIdx j))
      | none => False
    | none => False
  | _, _ => False
theorem ms_popAt : MSrv K rPopAt mPopAt := by
  intro S AA H x vs o os xs us k Q r hl hQ h
  unfold mPopAt at h
  split at h
  next ds i =>
    obtain ⟨y0, rfl⟩ := len1 hl
    obtain ⟨⟨b1, b2⟩, h⟩ := h
    split at h
    next j ej =>
      split at h
      next d ed =>
        replace r : RelA K S AA H (some x :: some y0 :: xs) (.ow .lst ds :: .sh (.sc (.int i)) :: us) := r
        obtain ⟨A1, r1, hy0, s1⟩ := RelA.fzBehind r (d := .sc (.int i)) rfl
        obtain ⟨q, hh, ws, rfl, c1, c2, c3⟩ := r1.cell1
        cases c2
        obtain ⟨y, ey, hy⟩ := c3.at_ ed
        obtain ⟨A2, r2, x2⟩ := r1.popped hy (c3.eraseIdx j)
        exact ⟨q, ws, i, j, y, rfl, by rw [hy0.scv]; rfl, c1, b1, b2, by rw [c3.len]; exact ej, ey, hQ _ _ _ _ A2 h r2 ((Ext.refl.sub s1).trans x2)⟩
      · exact h.elim
    · exact h.elim
  · exact h.elim
def mMap (f : List D → List D) : VM := fun o os k => match o, os with
  | .ow .lst ds, [] => k (.sh (.sc .non)) (.ow .lst (f ds))
  | _, _ => False
theorem ms_reverse : MSrv K rReverse (mMap List.reverse) := by
  intro S AA H x vs o os xs us k Q r hl hQ h
  unfold mMap at h
  split at h
  next ds =>
    obtain rfl : vs = [] := List.length_eq_zero_iff.mp hl
    replace r : RelA K S AA H (some x :: xs) (.ow .lst ds :: us) := r
    obtain ⟨q, hh, ws, rfl, c1, c2, c3⟩ := r.cell1
    cases c2
    obtain ⟨r2, x2⟩ := r.rw1 (l' := .lst) (h' := .lst ws.reverse) rfl c3.reverse
    obtain ⟨A3, r3, s3⟩ := r2.scBehind .non
    exact ⟨q, ws, rfl, rfl, c1, hQ _ _ _ _ A3 h r3 (x2.sub s3)⟩
  · exact h.elim
theorem ms_clear : MSrv K rClear (mMap fun _ => []) := by
  intro S AA H x vs o os xs us k Q r hl hQ h
  unfold mMap at h
  split at h
  next ds =>
    obtain rfl : vs = [] := List.length_eq_zero_iff.mp hl
    replace r : RelA K S AA H (some x :: xs) (.ow .lst ds :: us) := r
    obtain ⟨q, hh, ws, rfl, c1, c2, c3⟩ := r.cell1
    cases c2
    obtain ⟨r2, x2⟩ := r.rw1 (l' := .lst) (h' := .lst []) (vs' := []) rfl .nil
    obtain ⟨A3, r3, s3⟩ := r2.scBehind .non
    exact ⟨q, ws, rfl, rfl, c1, hQ _ _ _ _ A3 h r3 (x2.sub s3)⟩
  · exact h.elim
def mExtend : VM := fun o os k => match o, os with
  | .ow .lst ds, [a] => match kids a with
    | some (.lst, es) => ds.length + es.length ≤ sizeLine ∧ k (.sh (.sc .non)) (.ow .lst (ds ++ es))
    | _ => False
  | _, _ => False
theorem ms_extend : MSrv K rExtend mExtend := by
  intro S AA H x vs o os xs us k Q r hl hQ h
  unfold mExtend at h
  split at h
  next ds a =>
    obtain ⟨y, rfl⟩ := len1 hl
    split at h
    next es hk =>
      replace r : RelA K S AA H (some x :: some y :: xs) (.ow .lst ds :: a :: us) := r
      obtain ⟨b, zs, ey, z1, z2⟩ := r.kidsAt (i := 1) rfl rfl hk
      obtain ⟨A1, r0, s0⟩ := r.swap
      obtain ⟨A2, r1, s1⟩ := r0.drop1
      have s2 : ∀ a ∈ A2, a ∈ AA := fun a ha => s0 a (s1 a ha)
      obtain ⟨q, hh, ws, rfl, c1, c2, c3⟩ := r1.cell1
      cases c2
      obtain ⟨r2, x2⟩ := r1.rw1 (l' := .lst) (h' := .lst (ws ++ zs)) rfl (c3.app (z2.sub s2))
      obtain ⟨A3, r3, s3⟩ := r2.scBehind .non
      exact ⟨q, b, ws, zs, rfl, by rw [ey], c1, z1.lstAt, by rw [c3.len, z2.len]; exact h.1, hQ _ _ _ _ A3 h.2 r3 ((Ext.refl.sub s2).trans (x2.sub s3))⟩
    · exact h.elim
  · exact h.elim
end
section
variable {X : Cx} {W : WX} {p : Bool} {o e : Expr} {es : List Expr} {ra : VA} {i : Nat} {name : Str} {apos cpos : Pos} {T id : String} {rd : V → List V → Hp → L2.VK → Prop} {m : VM}
theorem ev_mut (pa : PlainAttrs T) (slot : Slot T name id) (hty : typeOf (.builtin id) = pure (.type "method_descriptor")) (hm : MtR X id rd) (hs : MSrv X.K rd m) (ho : PE X o (tVar i)) (ha : Av X W p (e :: es) ra)
    (hbase : attributeBase o name X.env (eval o X.env) = eval o X.env := by rfl)
    (hfew : ((PySem.backTo cpos (starEach (e :: es) X.env)).all (fun x => !x.1) && (backToKw cpos (keywordEach [] X.env)).all (fun x => x.1.isSome)
      && decide ((e :: es).length + ([] : List Keyword).length + (if ([] : List Keyword).isEmpty then 0 else 1) < 30)) = true := by rfl)
    (hline : (apos.endLine == cpos.line) = true := by rfl) (hst : starEach (e :: es) X.env = (false, eval e X.env) :: starEach es X.env := by rfl) (hplain : (PySem.backTo cpos (starEach es X.env)).any (·.1) = false := by rfl) :
    Ev X W false (.Call (.Attribute o name apos) (e :: es) [] cpos) (vMut i T m ra) := by
  obtain ⟨t, ht, st⟩ := ha.ex
  exact ⟨_, pe_bm pa slot hty hm ho ht hbase hfew hline hst hplain, snd_mut hs st⟩
theorem ev_mut0 (pa : PlainAttrs T) (slot : Slot T name id) (hty : typeOf (.builtin id) = pure (.type "method_descriptor")) (hm : MtR X id rd) (hs : MSrv X.K rd m) (ho : PE X o (tVar i))
    (hbase : attributeBase o name X.env (eval o X.env) = eval o X.env := by rfl) (hline : (apos.endLine == cpos.line) = true := by rfl) : Ev X W false (.Call (.Attribute o name apos) [] [] cpos) (vMut i T m vNil) :=
  ⟨_, pe_bm0 pa slot hty hm ho hbase hline, snd_mut0 hs⟩
end
/-! ### methods of values -/
def rM (rd : V → List V → Hp → L2.VK → Prop) : List V → Hp → L2.VK → Prop := fun vs H Q => match vs with
  | x :: xs => rd x xs H Q
  | [] => False
def tyO (T : String) (o : O) : Prop := match view o with
  | some (.sc (.str _)) => T = "str"
  | some (.nd .lst _) => T = "list"
  | some (.nd .fzl _) => T = "list"
  | _ => False
def vBM (T : String) (pb : Bool) (g : GN) (re : VE) (ra : VA) : VE := fun ρ φ ε => re ρ (fun o ρ1 => tyO T o ∧ ra ρ1 (fun os ρ2 => g (kl pb o :: os) fun u => φ u ρ2) ε) ε
theorem tyO_ty {K : PySem.W.Frag} {S : Addr → Prop} {AA : List Addr} {H : Hp} {x : V} {o : O} {xs : List (Option V)} {us : List O} {T : String} (r : RelA K S AA H (some x :: xs) (o :: us)) (h : tyO T o) : tyV K T x H := by
  unfold tyO at h
  split at h
  next z ev =>
    rw [(r.read1 ev).scv]
    exact h
  next ds ev =>
    cases r.read1 ev with
    | nd h1 h2 => exact .inl ⟨h, _, h1.seqL⟩
  next ds ev =>
    cases r.read1 ev with
    | nd h1 h2 => exact .inl ⟨h, _, h1.seqF⟩
  · exact h.elim
theorem snd_bm {K : PySem.W.Frag} {W : WX} {p pb : Bool} {T : String} {rd : V → List V → Hp → L2.VK → Prop} {g : GN} {to : TE} {re : VE} {t : TA} {ra : VA} (hs : Srv K (rM rd) g) (he : SndE K W p to re) (ha : SndA K W pb t ra) : SndE K W (p && pb) (tBM K T rd to t) (vBM T pb g re ra) := by
  intro S AA H σ ρ φ ε Q r l hQ h
  refine he S AA H σ ρ _ ε _ r l (fun v1 H1 o1 ρ1 A1 h1 r1 x1 p1 => ?_) h
  obtain ⟨h0, h1⟩ := h1
  refine ⟨tyO_ty r1 h0, ?_⟩
  obtain ⟨T0, A, eT, r1', J⟩ := RelA.under (ts := [some v1]) (us := [o1]) (xs := σ) (os := ρ1) r1 rfl pb
  subst eT
  refine ha _ A H1 σ ρ1 _ ε _ r1' (l.step x1).under (fun vs H2 os ρ2 A2 h2 hl r2 x2 p2 => ?_) h1
  obtain ⟨r3, x3⟩ := J A2 H2 (vs.map some ++ σ) (os ++ ρ2) x2 r2 fun e => (p2 e).2
  refine hs S _ H2 (v1 :: vs) (kl pb o1 :: os) σ ρ2 _ Q r3 (by rw [List.length_cons, List.length_cons, hl]) (fun v H' o A' hk r4 x4 s4 => ?_) h2
  refine hQ v H' o ρ2 A' hk r4 ((x1.trans x3).trans x4) fun e => ?_
  obtain ⟨ea, eb⟩ := and2 e
  exact ⟨(p2 eb).1.trans (p1 ea).1, Same.trans (Same.trans (p1 ea).2 (p2 eb).2) s4⟩
section
variable {X : Cx} {W : WX} {p pb : Bool} {o e : Expr} {es : List Expr} {re : VE} {ra : VA} {name : Str} {apos cpos : Pos} {T id : String} {rd : V → List V → Hp → L2.VK → Prop} {g : GN}
theorem ev_bm (pa : PlainAttrs T) (slot : Slot T name id) (hty : typeOf (.builtin id) = pure (.type "method_descriptor")) (hm : MtR X id rd) (hs : Srv X.K (rM rd) g) (ho : Ev X W p o re) (ha : Av X W pb (e :: es) ra)
    (hbase : attributeBase o name X.env (eval o X.env) = eval o X.env := by rfl)
    (hfew : ((PySem.backTo cpos (starEach (e :: es) X.env)).all (fun x => !x.1) && (backToKw cpos (keywordEach [] X.env)).all (fun x => x.1.isSome)
      && decide ((e :: es).length + ([] : List Keyword).length + (if ([] : List Keyword).isEmpty then 0 else 1) < 30)) = true := by rfl)
    (hline : (apos.endLine == cpos.line) = true := by rfl) (hst : starEach (e :: es) X.env = (false, eval e X.env) :: starEach es X.env := by rfl) (hplain : (PySem.backTo cpos (starEach es X.env)).any (·.1) = false := by rfl) {q_ : Bool} (hq_ : (p && pb) = q_ := by rfl) :
    Ev X W q_ (.Call (.Attribute o name apos) (e :: es) [] cpos) (vBM T pb g re ra) := by
  subst hq_
  obtain ⟨t, ht, st⟩ := ha.ex
  obtain ⟨t0, ht0, st0⟩ := ho.ex
  exact ⟨_, pe_bm pa slot hty hm ht0 ht hbase hfew hline hst hplain, snd_bm hs st0 st⟩
end
end VL

namespace VL
open PySem PySem.Spec L2

theorem sr2m {K : PySem.W.Frag} {rd : V → List V → Hp → L2.VK → Prop} {g : O → O → (O → Prop) → Prop} (h : Sr2 K (fun x y H Q => rd x [y] H Q) g) : Srv K (rM rd) (gn2 g) := srv2 (rd := rM rd) h
def strsOf : List D → Option (List Str)
  | [] => some []
  | .sc (.str b) :: ds => match strsOf ds with
    | some bs => some (b :: bs)
    | none => none
  | _ :: _ => none
theorem strsOf_of {K : PySem.W.Frag} {H : Hp} {B : Addr → Prop} : ∀ {ds : List D} {vs : List V} {bs : List Str}, RpSs K H B vs ds → strsOf ds = some bs → vs = bs.map V.str
  | [], _, _, h, e => by cases h; cases e; rfl
  | .sc (.str b) :: ds, _, bs, h, e => by
    cases h with
    | cons h1 h2 =>
      have e0 : (match strsOf ds with | some bs => some (b :: bs) | none => none) = some bs := e
      cases e1 : strsOf ds with
      | none => rw [e1] at e0; cases e0
      | some cs =>
        rw [e1] at e0
        cases e0
        rw [strsOf_of h2 e1, h1.scv]
        rfl
  | .sc .non :: _, _, _, _, e => by cases e
  | .sc (.bl _) :: _, _, _, _, e => by cases e
  | .sc (.int _) :: _, _, _, _, e => by cases e
  | .sc (.adr _) :: _, _, _, _, e => by cases e
  | .sc (.ty _) :: _, _, _, _, e => by cases e
  | .nd _ _ :: _, _, _, _, e => by cases e
/-! ### join, split, partition -/
def gJoin (a b : O) (k : O → Prop) : Prop := vw a fun d => match d with
  | .sc (.str z) => lstOf b fun ds => match strsOf ds with
    | some ys => (ys.map (·.length)).sum + ys.length * z.length ≤ 16777216 ∧ k (.sh (.sc (.str (Txt.join z ys))))
    | none => False
  | _ => False
theorem lstOf2 {K : PySem.W.Frag} {S : Addr → Prop} {AA : List Addr} {H : Hp} {x y : V} {a b : O} {xs : List (Option V)} {us : List O} {k : List D → Prop} (r : RelA K S AA H (some x :: some y :: xs) (a :: b :: us)) (h : lstOf b k) : ∃ ds p vs, y = .ref p ∧ SqL K H p vs ∧ RpSs K H NB vs ds ∧ k ds := by
  obtain ⟨d, e1, h⟩ := vw_of h
  cases es : seqOf .lst d with
  | none => rw [es] at h; exact h.elim
  | some ds =>
    rw [es] at h
    obtain ⟨p, vs, ev, hq, hs⟩ := (r.read2 e1).seqL es
    exact ⟨ds, p, vs, ev, hq, hs, h⟩
theorem sr_join {K : PySem.W.Frag} : Srv K (rM fun x xs H Q => ∃ a p, ∃ ys : List Str, x = .str a ∧ xs = [.ref p] ∧ (SqL K H p (ys.map V.str) ∨ SqT K H p (ys.map V.str)) ∧
    (ys.map (·.length)).sum + ys.length * a.length ≤ 16777216 ∧ Q (.str (Txt.join a ys)) H) (gn2 gJoin) := sr2m (by
  intro S AA H x y a b xs us k Q r hQ h
  obtain ⟨d, e1, h⟩ := vw_of h
  split at h
  next z =>
    obtain ⟨ds, p, vs, ey, hq, hs, h⟩ := lstOf2 r h
    cases e2 : strsOf ds with
    | none => rw [e2] at h; exact h.elim
    | some ys =>
      rw [e2] at h
      rw [strsOf_of hs e2] at hq
      exact ⟨z, p, ys, (r.read1 e1).scv, by rw [ey], .inl hq, h.1, hQ _ H _ h.2 (RelA.resS (.str _) (ts := [_, _]) (us := [_, _]) r rfl)⟩
  · exact h.elim)
def strD (x : Str) : D := .sc (.str x)
theorem rp_strs {K : PySem.W.Frag} {H : Hp} {B : Addr → Prop} : ∀ (ys : List Str), RpSs K H B (ys.map V.str) (ys.map strD)
  | [] => .nil
  | y :: ys => .cons (.sc (.str y)) (rp_strs ys)
def gSplit (a b : O) (k : O → Prop) : Prop := vw a fun d => vw b fun e => match d, e with
  | .sc (.str x), .sc (.str y) => ((y.length == 0) = false ∧ x.length + 2 ≤ sizeLine) ∧ k (.ow .lst ((Txt.split x y).map strD))
  | _, _ => False
theorem sr_split {K : PySem.W.Frag} : Srv K (rM fun x xs H Q => ∃ a b, x = .str a ∧ xs = [.str b] ∧ (b.length == 0) = false ∧ a.length + 2 ≤ sizeLine ∧ rNewStrs (Txt.split a b) H Q) (gn2 gSplit) := sr2m (by
  intro S AA H x y a b xs us k Q r hQ h
  obtain ⟨d, e1, h⟩ := vw_of h
  obtain ⟨e, e2, h⟩ := vw_of h
  obtain ⟨p1, p2⟩ := r.two e1 e2
  split at h
  · exact ⟨_, _, p1.scv, by rw [p2.scv]; rfl, h.1.1, h.1.2, fun q hq => hQ _ _ _ h.2 (RelA.resO (l := .lst) (ts := [_, _]) (us := [_, _]) r rfl hq rfl (rp_strs _))⟩
  · exact h.elim)
def gPartition (a b : O) (k : O → Prop) : Prop := vw a fun d => vw b fun e => match d, e with
  | .sc (.str x), .sc (.str y) => ((y.length == 0) = false ∧ x.length ≤ sizeLine) ∧ k (.sh (.nd .tup [strD (Txt.partition x y).1, strD (Txt.partition x y).2.1, strD (Txt.partition x y).2.2]))
  | _, _ => False
theorem sr_partition {K : PySem.W.Frag} : Srv K (rM fun x xs H Q => ∃ a b, x = .str a ∧ xs = [.str b] ∧ (b.length == 0) = false ∧ a.length ≤ sizeLine ∧
    ∀ p, H p = none → Q (.ref p) (upd H p (.tup [.str (Txt.partition a b).1, .str (Txt.partition a b).2.1, .str (Txt.partition a b).2.2]))) (gn2 gPartition) := sr2m (by
  intro S AA H x y a b xs us k Q r hQ h
  obtain ⟨d, e1, h⟩ := vw_of h
  obtain ⟨e, e2, h⟩ := vw_of h
  obtain ⟨p1, p2⟩ := r.two e1 e2
  split at h
  · exact ⟨_, _, p1.scv, by rw [p2.scv]; rfl, h.1.1, h.1.2, fun q hq => hQ _ _ _ h.2 (RelA.resT (l := .tup) (ts := [_, _]) (us := [_, _]) r rfl hq rfl (rp_strs [_, _, _]))⟩
  · exact h.elim)
/-! ### list.index, of flat items -/
/-- the first place of an equal item -/
def gIndex (a b : O) (k : O → Prop) : Prop := lstOf a fun ds => vw b fun e => match e, flats ds with
  | .sc s, some ss => scFlat s = true ∧ match ss.findIdx? fun t => eqV t.v s.v with
    | some j => k (.sh (.sc (.int (j : Nat))))
    | none => False
  | _, _ => False
theorem sr_index {K : PySem.W.Frag} : Srv K (rM (rIndex K)) (gn2 gIndex) := sr2m (by
  intro S AA H x y a b xs us k Q r hQ h
  obtain ⟨d0, e0, h⟩ := vw_of h
  cases es : seqOf .lst d0 with
  | none => rw [es] at h; exact h.elim
  | some ds =>
    rw [es] at h
    obtain ⟨p, vs, ev, hq, hs⟩ := (r.read1 e0).seqL es
    obtain ⟨e, e2, h⟩ := vw_of h
    have p2 := r.read2 e2
    cases e with
    | nd _ _ => exact h.elim
    | sc s =>
      cases ef : flats ds with
      | none => simp only [ef] at h
      | some ss =>
        simp only [ef] at h
        obtain ⟨f1, h⟩ := h
        split at h
        next j ej =>
          obtain ⟨q1, q2⟩ := flats_of hs ef
          rw [List.findIdx?_eq_some_iff_getElem] at ej
          obtain ⟨hj, m1, m2⟩ := ej
          refine ⟨p, vs, y, j, ss[j].v, ev, rfl, hq, ?_, q2, ?_, ?_, fun m z' hm hz => ?_, hQ _ H _ h (RelA.resS (.int _) (ts := [_, _]) (us := [_, _]) r rfl)⟩
          · rw [p2.scv]; cases s <;> first | rfl | cases f1
          · rw [q1, List.getElem?_map, List.getElem?_eq_getElem hj]; rfl
          · rw [p2.scv]; exact m1
          · rw [q1, List.getElem?_map, List.getElem?_eq_getElem (Nat.lt_trans hm hj)] at hz
            have ez : ss[m].v = z' := Option.some.inj hz
            rw [← ez, p2.scv]
            simpa using m2 m hm
        · exact h.elim)
/-! ### d.get(k), d.get(k, x) -/
def dGet (a b : O) (k : Option O → Prop) : Prop := vw b fun e => match partsOf a with
  | some (.dk ks, os) => match keyD e with
    | some y => k (getK ks os y)
    | none => False
  | _ => False
theorem dGet_of {K : PySem.W.Frag} {S : Addr → Prop} {AA : List Addr} {H : Hp} {x y : V} {a b : O} {xs : List (Option V)} {us : List O} {i j : Nat} {k : Option O → Prop} (r : RelA K S AA H xs us) (hx : xs[i]? = some (some x)) (hy : xs[j]? = some (some y)) (ha : us[i]? = some a) (hb : us[j]? = some b) (h : dGet a b k) :
    ∃ (p : Addr) (o : Option O) (ov : Option V), x = .ref p ∧ DGet H p y ov ∧ k o ∧ match o with
      | some q => ∃ v A', ov = some v ∧ RpO K H (fun a => S a ∨ a ∈ AA) (some v) q A'
      | none => ov = none := by
  obtain ⟨e, e2, h⟩ := vw_of h
  have p2 := r.readAt hy hb e2
  split at h
  next ks os ep =>
    split at h
    next y0 ey =>
      obtain ⟨p, vs, A', ev, hsh, hps⟩ := r.partsAt hx ha ep
      obtain ⟨hl, hr⟩ := hsh.rdK
      have g := getK_val (k := y0) hps hl
      refine ⟨p, _, valV (ks.zip vs) y0, ev, .inl ⟨_, y0, hr, keyD_kV p2 ey, rfl⟩, h, ?_⟩
      cases eo : getK ks os y0 with
      | none => rw [eo] at g; exact g
      | some q =>
        rw [eo] at g
        obtain ⟨v, A2, g1, g2⟩ := g
        exact ⟨v, A2, g1, g2⟩
    · exact h.elim
  · exact h.elim
/-- a dict, readable -/
def isDk0 (a : O) : Prop := match partsOf a with
  | some (.dk _, _) => True
  | _ => False
theorem isDk0_of {K : PySem.W.Frag} {S : Addr → Prop} {AA : List Addr} {H : Hp} {x : V} {a : O} {xs : List (Option V)} {us : List O} (r : RelA K S AA H (some x :: xs) (a :: us)) (h : isDk0 a) : ∃ p, x = .ref p ∧ IsD H p := by
  unfold isDk0 at h
  split at h
  next ks os ep =>
    obtain ⟨p, vs, A', ev, hsh, hps⟩ := r.partsAt (i := 0) rfl rfl ep
    exact ⟨p, ev, .inl ⟨_, hsh.rdK.2⟩⟩
  · exact h.elim
/-- d.get(e, f): d, e, f read nothing that changes -/
def vDget2 (rd re rf : VE) : VE := fun ρ φ ε => rd ρ (fun od ρ1 => isDk0 od ∧ re ρ1 (fun oe ρ2 => rf ρ2 (fun of ρ3 => dGet od oe fun o => match o with
  | some q => outO (some q) fun u => φ u ρ3
  | none => φ of ρ3) ε) ε) ε
def vDget1 (rd re : VE) : VE := fun ρ φ ε => rd ρ (fun od ρ1 => isDk0 od ∧ re ρ1 (fun oe ρ2 => dGet od oe fun o => match o with
  | some q => outO (some q) fun u => φ u ρ2
  | none => φ (.sh (.sc .non)) ρ2) ε) ε
theorem snd_dget1 {K : PySem.W.Frag} {W : WX} {p : Bool} {td te : TE} {rd re : VE} (hd : SndE K W p td rd) (he : SndE K W true te re) : SndE K W p (tDGet1 td te) (vDget1 rd re) := by
  intro S AA H σ ρ φ ε Q r l hQ h
  refine hd S AA H σ ρ _ ε _ r l (fun v1 H1 o1 ρ1 A1 h1 r1 x1 p1 => ?_) h
  obtain ⟨h0, h1⟩ := h1
  obtain ⟨q, ev, hD⟩ := isDk0_of r1 h0
  refine ⟨q, ev, hD, ?_⟩
  obtain ⟨T, A, eT, r1', J⟩ := RelA.under (ts := [some v1]) (us := [o1]) (xs := σ) (os := ρ1) r1 rfl true
  subst eT
  refine he _ A H1 σ ρ1 _ ε _ r1' (l.step x1).under (fun v2 H2 o2 ρ2 A2 h2 r2 x2 p2 => ?_) h1
  obtain ⟨r3, x3⟩ := J A2 H2 (some v2 :: σ) (o2 :: ρ2) x2 r2 fun e => (p2 e).2
  replace r3 : RelA K S (T ++ A2) H2 (some v1 :: some v2 :: σ) (o1 :: o2 :: ρ2) := r3
  obtain ⟨p', o, ov, ep, g, hk, hm⟩ := dGet_of (i := 0) (j := 1) r3 rfl rfl rfl rfl h2
  rw [ev] at ep
  cases ep
  refine ⟨ov, g, ?_⟩
  cases o with
  | some u =>
    obtain ⟨v, A', e1, hr⟩ := hm
    subst e1
    obtain ⟨u1, u2, e3, e4, hk⟩ := outO_of hk
    cases e3
    obtain ⟨v', e5, A5, r5, x5, s5⟩ := RelA.resP (ts := [_, _]) (us := [_, _]) r3 rfl hr e4
    cases e5
    exact hQ v H2 u2 ρ2 A5 hk r5 ((x1.trans x3).trans x5) fun e => ⟨(p2 rfl).1.trans (p1 e).1, Same.trans (p1 e).2 (p2 rfl).2⟩
  | none =>
    have e1 : ov = none := hm
    subst e1
    obtain ⟨A5, r5, x5, s5⟩ := RelA.resS .non (ts := [_, _]) (us := [_, _]) r3 rfl
    exact hQ .non H2 _ ρ2 A5 hk r5 ((x1.trans x3).trans x5) fun e => ⟨(p2 rfl).1.trans (p1 e).1, Same.trans (p1 e).2 (p2 rfl).2⟩
theorem snd_dget2 {K : PySem.W.Frag} {W : WX} {p pf : Bool} {td te tf : TE} {rd re rf : VE} (hd : SndE K W p td rd) (he : SndE K W true te re) (hf : SndE K W true tf rf) : SndE K W p (tDGet2 td te tf) (vDget2 rd re rf) := by
  intro S AA H σ ρ φ ε Q r l hQ h
  refine hd S AA H σ ρ _ ε _ r l (fun v1 H1 o1 ρ1 A1 h1 r1 x1 p1 => ?_) h
  obtain ⟨h0, h1⟩ := h1
  obtain ⟨q, ev, hD⟩ := isDk0_of r1 h0
  refine ⟨q, ev, hD, ?_⟩
  obtain ⟨T, A, eT, r1', J⟩ := RelA.under (ts := [some v1]) (us := [o1]) (xs := σ) (os := ρ1) r1 rfl true
  subst eT
  refine he _ A H1 σ ρ1 _ ε _ r1' (l.step x1).under (fun v2 H2 o2 ρ2 A2 h2 r2 x2 p2 => ?_) h1
  obtain ⟨r3, x3⟩ := J A2 H2 (some v2 :: σ) (o2 :: ρ2) x2 r2 fun e => (p2 e).2
  replace r3 : RelA K S (T ++ A2) H2 ([some v1, some v2] ++ σ) ([o1, o2] ++ ρ2) := r3
  obtain ⟨T2, A4, eT2, r4, J2⟩ := RelA.under r3 rfl true
  rw [eT2] at x3
  refine hf _ A4 H2 σ ρ2 _ ε _ r4 ((l.step x1).step x3).under (fun v3 H3 o3 ρ3 A5 h3 r5 x5 p3 => ?_) h2
  obtain ⟨r6, x6⟩ := J2 A5 H3 (some v3 :: σ) (o3 :: ρ3) x5 r5 fun e => (p3 e).2
  replace r6 : RelA K S (T2 ++ A5) H3 (some v1 :: some v2 :: some v3 :: σ) (o1 :: o2 :: o3 :: ρ3) := r6
  rw [eT2] at x6
  obtain ⟨p', o, ov, ep, g, hk, hm⟩ := dGet_of (i := 0) (j := 1) r6 rfl rfl rfl rfl h3
  rw [ev] at ep
  cases ep
  refine ⟨ov, g, ?_⟩
  have X := (x1.trans x3).trans x6
  have pure : p = true → ρ3 = ρ ∧ Same H H3 := fun e => ⟨(p3 rfl).1.trans ((p2 rfl).1.trans (p1 e).1), Same.trans (p1 e).2 (Same.trans (p2 rfl).2 (p3 rfl).2)⟩
  cases o with
  | some u =>
    obtain ⟨v, A', e1, hr⟩ := hm
    subst e1
    obtain ⟨u1, u2, e3, e4, hk⟩ := outO_of hk
    cases e3
    obtain ⟨v', e5, A5, r5, x5, s5⟩ := RelA.resP (ts := [_, _, _]) (us := [_, _, _]) r6 rfl hr e4
    cases e5
    exact hQ v H3 u2 ρ3 A5 hk r5 (X.trans x5) pure
  | none =>
    have e1 : ov = none := hm
    subst e1
    obtain ⟨A6, r7, s7⟩ := RelA.dropN (ts := [some v1, some v2]) (us := [o1, o2]) (xs := some v3 :: σ) (os := o3 :: ρ3) r6 rfl
    exact hQ v3 H3 o3 ρ3 A6 hk r7 (X.sub s7) pure
section
variable {X : Cx} {W : WX} {p : Bool} {o e f : Expr} {rd re rf : VE} {apos cpos : Pos}
theorem ev_dget1 (hu : X.A.units + 1 < cLine) (hd : Ev X W p o rd) (he : Ev X W true e re) (m : M1 X o "get" apos e cpos := by exact ⟨rfl, rfl, rfl, rfl⟩) : Ev X W p (.Call (.Attribute o "get" apos) [e] [] cpos) (vDget1 rd re) := by
  obtain ⟨t1, h1, s1⟩ := hd.ex
  obtain ⟨t2, h2, s2⟩ := he.ex
  exact ⟨_, pe_dget1 hu h1 h2 m, snd_dget1 s1 s2⟩
theorem ev_dget2 (hu : X.A.units + 1 < cLine) (hd : Ev X W p o rd) (he : Ev X W true e re) (hf : Ev X W true f rf) (m : M2 X o "get" apos e f cpos := by exact ⟨rfl, rfl, rfl, rfl⟩) : Ev X W p (.Call (.Attribute o "get" apos) [e, f] [] cpos) (vDget2 rd re rf) := by
  obtain ⟨t1, h1, s1⟩ := hd.ex
  obtain ⟨t2, h2, s2⟩ := he.ex
  obtain ⟨t3, h3, s3⟩ := hf.ex
  exact ⟨_, pe_dget2 hu h1 h2 h3 m, snd_dget2 (pf := true) s1 s2 s3⟩
end
/-! ### x[i] = v, x a name -/
def setK {α : Type} : List Key → List α → Key → α → List α
  | k' :: ks, d :: ds, k, x => if k' = k then x :: setK ks ds k x else d :: setK ks ds k x
  | _, ds, _, _ => ds
def putKD (ks : List Key) (ds : List D) (y : Key) (d : D) : O := if (ks.any fun k => decide (k = y)) = true then .ow (.dk ks) (setK ks ds y d) else .ow (.dk (ks ++ [y])) (ds ++ [d])
def setI (o i v : O) (k : O → Prop) : Prop := frD v fun d => vw i fun e => match o with
  | .ow .lst ds => match e with
    | .sc (.int j) => match ixN ds.length j with
      | some n => k (.ow .lst (ds.set n d))
      | none => False
    | _ => False
  | .ow (.dk ks) ds => match keyD e with
    | some y => ks.length < sizeLine ∧ k (putKD ks ds y d)
    | none => False
  | _ => False
def rSetU : TSet := fun o i v H Q => rSetL o i v H Q ∨ rSetD o i v H Q
theorem set_u {X : Cx} (hu : X.A.units + 1 < cLine) : PSet X rSetU := by
  intro pins s σ H o i v ov iv u Q I ro ri rv h
  rcases h with h | h
  · exact set_list pins s σ H o i v ov iv u Q I ro ri rv h
  · exact set_dict hu pins s σ H o i v ov iv u Q I ro ri rv h
theorem setK_len {α : Type} : ∀ {ks : List Key} {ds : List α} {y : Key} {d : α}, (setK ks ds y d).length = ds.length
  | [], ds, _, _ => by unfold setK; rfl
  | _ :: _, [], _, _ => by unfold setK; rfl
  | k :: ks, x :: ds, y, d => by
    unfold setK
    split
    · rw [List.length_cons, List.length_cons, setK_len]
    · rw [List.length_cons, List.length_cons, setK_len]
theorem RpSs.setK {K : PySem.W.Frag} {H : Hp} {B : Addr → Prop} {y : Key} {v : V} {d : D} (hv : RpS K H B v d) : ∀ {ks : List Key} {vs : List V} {ds : List D}, RpSs K H B vs ds → RpSs K H B (VL.setK ks vs y v) (VL.setK ks ds y d)
  | [], vs, ds, h => by unfold VL.setK; exact h
  | k :: ks, vs, [], h => by cases h; unfold VL.setK; exact .nil
  | k :: ks, vs, x :: ds, h => by
    cases h with
    | cons h1 h2 =>
      unfold VL.setK
      split
      · exact .cons hv (RpSs.setK hv h2)
      · exact .cons h1 (RpSs.setK hv h2)
theorem putK_zip {y : Key} {v : V} : ∀ {ks : List Key} {vs : List V}, ks.length = vs.length → (ks.any fun k => decide (k = y)) = true → putK (ks.zip vs) y v = ks.zip (setK ks vs y v) := by
  intro ks vs hl h
  have h1 : ((ks.zip vs).any fun kv => decide (kv.1 = y)) = true := by
    have e : (ks.zip vs).map (·.1) = ks := List.map_fst_zip (by omega)
    rw [← e, List.any_map] at h
    exact h
  unfold putK
  rw [if_pos h1]
  clear h h1
  induction ks generalizing vs with
  | nil => rfl
  | cons k ks ih =>
    cases vs with
    | nil => cases hl
    | cons w vs =>
      have ih2 := ih (vs := vs) (by simpa using hl)
      show (if k = y then (k, v) else (k, w)) :: (ks.zip vs).map (fun kv => if kv.1 = y then (kv.1, v) else kv) = _
      rw [ih2]
      by_cases e : k = y
      · have : setK (k :: ks) (w :: vs) y v = v :: setK ks vs y v := by rw [setK, if_pos e]
        rw [this, if_pos e]
        rfl
      · have : setK (k :: ks) (w :: vs) y v = w :: setK ks vs y v := by rw [setK, if_neg e]
        rw [this, if_neg e]
        rfl
theorem putK_zipN {y : Key} {v : V} {ks : List Key} {vs : List V} (hl : ks.length = vs.length) (h : ¬ (ks.any fun k => decide (k = y)) = true) : putK (ks.zip vs) y v = (ks ++ [y]).zip (vs ++ [v]) := by
  have h1 : ¬ ((ks.zip vs).any fun kv => decide (kv.1 = y)) = true := by
    have e : (ks.zip vs).map (·.1) = ks := List.map_fst_zip (by omega)
    intro z
    apply h
    rw [← e, List.any_map]
    exact z
  unfold putK
  rw [if_neg h1, List.zip_append hl]
  rfl
/-- o[i] = v on the thing of a name -/
def isOwn (o : O) : Prop := match o with
  | .ow _ _ => True
  | .dp _ _ => True
  | _ => False
theorem isOwn_val {K : PySem.W.Frag} {S : Addr → Prop} {AA : List Addr} {H : Hp} {σ : L2.St} {ρ : Env} {i : Nat} (r : RelA K S AA H σ ρ) (h : isOwn (envAt ρ i)) : ∃ v, σ[i]? = some (some v) := by
  cases e : envAt ρ i with
  | ow a b =>
    obtain ⟨x, A, e1, e2⟩ := r.get (envAt_some e (by intro z; cases z))
    cases e2
    exact ⟨_, e1⟩
  | dp a b =>
    obtain ⟨x, A, e1, e2⟩ := r.get (envAt_some e (by intro z; cases z))
    cases e2
    exact ⟨_, e1⟩
  | _ => rw [e] at h; exact h.elim
def vgSub (i : Nat) (pi : Bool) (ri : VE) : VG := fun o ρ k => isOwn (envAt ρ i) ∧ ri ρ (fun oi ρ1 => setI (envAt ρ1 i) oi (kl pi o) fun o' => k (putE ρ1 i o')) (fun _ _ => False)
theorem sg_sub {K : PySem.W.Frag} {W : WX} {io : List Nat} {i : Nat} {pi : Bool} {ti : TE} {ri : VE} (hi : SndE K W pi ti ri) : SndG K io (L2.gSub (tVar i) ti rSetU) (vgSub i pi ri) := by
  intro S AA H σ ρ v o k Q r hQ h
  obtain ⟨h0, h⟩ := h
  -- the index, under the value
  obtain ⟨T, A, eT, r1, J⟩ := RelA.under (ts := [some v]) (us := [o]) (xs := σ) (os := ρ) r rfl pi
  subst eT
  obtain ⟨w, hw⟩ := isOwn_val r1 h0
  refine ⟨w, hw, ?_⟩
  refine hi _ A H σ ρ _ (fun _ _ => False) _ r1 (fun cls d H' ρ' exc AA' _ _ _ hf => hf.elim) (fun iv H1 oi ρ1 A1 h1 r2 x2 p2 => ?_) h
  obtain ⟨r3, x3⟩ := J A1 H1 (some iv :: σ) (oi :: ρ1) x2 r2 fun e => (p2 e).2
  replace r3 : RelA K S (T ++ A1) H1 (([v, iv] : List V).map some ++ σ) ([kl pi o, oi] ++ ρ1) := r3
  have len : σ.length = ρ1.length := by
    have a := r2.len
    simpa using a
  have ho : ρ1[i]? = some (envAt ρ1 i) := by
    unfold envAt
    rw [List.getElem?_eq_getElem (by rw [← len]; exact (List.getElem?_eq_some_iff.mp hw).1)]
    rfl
  obtain ⟨A2, r4, s4⟩ := r3.slotOut rfl hw ho
  replace r4 : RelA K S A2 H1 (some w :: some v :: some iv :: σ) (envAt ρ1 i :: kl pi o :: oi :: ρ1.set i .top) := r4
  obtain ⟨d, ed, h1⟩ := frD_of h1
  obtain ⟨e, ee, h1⟩ := vw_of h1
  obtain ⟨A3, r5, hd, s5⟩ := r4.fzBehind ed
  have hrd := r5.read2 ee
  obtain ⟨A4, r6, s6⟩ := r5.swap
  obtain ⟨A5, r7, s7⟩ := r6.drop1
  have sub : ∀ a ∈ A5, a ∈ T ++ A1 := fun a ha => s4 a (s5 a (s6 a (s7 a ha)))
  have hd' : RpS K H1 (fun a => S a ∨ a ∈ A5) v d := hd.keep (Keep.here fun a z => z.imp_right fun q => s6 a (s7 a q))
  -- the new cell
  have fin : ∀ {q : Addr} {l l' : Lab} {ds ds' : List D} {vs' : List V} {h' : HO}, w = .ref q → envAt ρ1 i = .ow l ds → RelA K S A5 H1 (some w :: σ) (.ow l ds :: ρ1.set i .top) → cellIs l' vs' h' → RpSs K H1 (fun a => S a ∨ a ∈ A5) vs' ds' → k (putE ρ1 i (.ow l' ds')) → Q σ (upd H1 q h') := by
    intro q l l' ds ds' vs' h' ew eo r8 hc hs hk
    subst ew
    obtain ⟨r9, x9⟩ := r8.rw1 hc hs
    obtain ⟨A10, r10, s10⟩ := r9.store i
    rw [set_self hw] at r10
    exact hQ σ _ _ A10 hk .refl r10 ((x3.sub sub).trans (x9.sub s10))
  cases eo : envAt ρ1 i with
  | ow l ds =>
    rw [eo] at h1 r7
    obtain ⟨q, hh, ws, ew, c1, c2, c3⟩ := r7.cell1
    cases l with
    | lst =>
      cases c2
      cases e with
      | nd _ _ => exact h1.elim
      | sc t =>
        cases t with
        | int j =>
          replace h1 : match ixN ds.length j with
            | some n => k (putE ρ1 i (.ow .lst (ds.set n d)))
            | none => False := h1
          split at h1
          next n en =>
            refine .inl ⟨q, ws, j, n, ew, hrd.scv, c1, by rw [c3.len]; exact en, ?_⟩
            exact fin ew eo r7 (l' := .lst) rfl (c3.set_ hd' n) h1
          · exact h1.elim
        | _ => exact h1.elim
    | dk ks =>
      obtain ⟨c2, c4⟩ := c2
      subst c4
      replace h1 : match keyD e with
        | some y => ks.length < sizeLine ∧ k (putE ρ1 i (putKD ks ds y d))
        | none => False := h1
      split at h1
      next y ey =>
        obtain ⟨hz, h1⟩ := h1
        refine .inr ⟨q, _, ew, .inl ⟨_, y, c1, keyD_kV hrd ey, by rw [List.length_zip, c2, Nat.min_self, ← c2]; exact hz, rfl⟩, ?_⟩
        by_cases ha : (ks.any fun k => decide (k = y)) = true
        · rw [putK_zip c2 ha]
          refine fin ew eo r7 (l' := .dk ks) ⟨by rw [setK_len]; exact c2, rfl⟩ (c3.setK hd') ?_
          have e9 : putKD ks ds y d = .ow (.dk ks) (setK ks ds y d) := if_pos ha
          rw [← e9]
          exact h1
        · rw [putK_zipN c2 ha]
          refine fin ew eo r7 (l' := .dk (ks ++ [y])) ⟨by rw [List.length_append, List.length_append, c2]; rfl, rfl⟩ (c3.app (.cons hd' .nil)) ?_
          have e9 : putKD ks ds y d = .ow (.dk (ks ++ [y])) (ds ++ [d]) := if_neg ha
          rw [← e9]
          exact h1
      · exact h1.elim
    | _ => exact h1.elim
  | _ => rw [eo] at h1; exact h1.elim
section
variable {X : Cx} {W : WX} {io : List Nat} {p pi : Bool} {o j e tg : Expr} {i : Nat} {ri re : VE} {g : VG} {pos : Pos}
theorem gv_sub (hu : X.A.units + 1 < cLine) (ho : PE X o (tVar i)) (hi : Ev X W pi j ri) (ha : ∀ v, assign (.Subscript o j pos) X.env v = (do
      let ov ← holding [v] (eval o X.env)
      let iv ← holding [v, ov] (eval j X.env)
      standAt pos
      holding [v, ov, iv] (setItem ov iv v)
      release [v, ov, iv] []) := by intro _; rfl) : Gv X io (.Subscript o j pos) (vgSub i pi ri) := by
  obtain ⟨t, ht, st⟩ := hi.ex
  exact ⟨_, pg_sub ho ht (set_u hu) ha, sg_sub st⟩
def vAsg (re : VE) (g : VG) : VS := fun ρ k ε => re ρ (fun o ρ1 => g o ρ1 k.nx) ε
theorem snd_asg {K : PySem.W.Frag} {te : TE} {tg : TG} (he : SndE K W p te re) (hg : SndG K io tg g) : SndS K W io (tAsg te tg) (vAsg re g) := by
  intro S AA H σ ρ k ε D r l hn hr hb hc h
  refine he S AA H σ ρ _ ε _ r l.e (fun v H1 o ρ1 A1 h1 r1 x1 p1 => ?_) h
  exact hg S A1 H1 σ ρ1 v o _ _ r1 (fun σ' H' ρ' AA' a b c d => hn σ' H' ρ' AA' a b c (x1.trans d)) h1
theorem sv_asg (he : Ev X W p e re) (hg : Gv X io tg g) (hs : swapsWithSole [tg] e pos.line X.env = pure false := by rfl) (hw : swappedStores [tg] e X.env = pure none := by rfl) (hx : (assignEach [tg] X.env).map (·.2) = [assign tg X.env] := by rfl) :
    Sv X W io (.Assign [tg] e pos) (vAsg re g) := by
  obtain ⟨t, ht, st⟩ := he.ex
  obtain ⟨t2, ht2, st2⟩ := hg.ex
  exact ⟨_, ps_asg ht ht2 hs hw hx, snd_asg st st2⟩
end
end VL

namespace VL
open PySem PySem.Spec L2

/-! ### unreachable statements, chains of comparisons, rooms -/
def vNever : VS := fun _ _ _ => False
theorem sv_never {X : Cx} {W : WX} {io : List Nat} {st : Stmt} : Sv X W io st vNever := ⟨tNever, ps_never, fun S AA H σ ρ k ε D r l hn hr hb hc h => h.elim⟩
def vChainI (f1 f2 : Int → Int → Bool) (ra rb rc : VE) : VT := fun ρ φ ε => ra ρ (fun oa ρ1 => rb ρ1 (fun ob ρ2 => match oa, ob with
  | .sh (.sc (.int i)), .sh (.sc (.int j)) => if f1 i j = true then rc ρ2 (fun oc ρ3 => match oc with
    | .sh (.sc (.int k)) => φ (f2 j k) ρ3
    | _ => False) ε else φ false ρ2
  | _, _ => False) ε) ε
theorem shI {K : PySem.W.Frag} {S : Addr → Prop} {AA : List Addr} {H : Hp} {v : V} {i : Int} {xs : List (Option V)} {os : List O} (r : RelA K S AA H (some v :: xs) (.sh (.sc (.int i)) :: os)) : v = .int i ∧ ∃ AA', RelA K S AA' H xs os ∧ ∀ a ∈ AA', a ∈ AA :=
  ⟨(r.read1 (d := .sc (.int i)) rfl).scv, r.drop1⟩
theorem tv_chainI {X : Cx} {W : WX} {pa pb pc : Bool} {a b c : Expr} {ra rb rc : VE} {op op' : CmpOp} {pos : Pos} {f1 f2 : Int → Int → Bool} (ho : OpR X (compareOp op) (rI0 fun i j => .bl (f1 i j))) (ho' : OpR X (compareOp op') (rI0 fun i j => .bl (f2 i j)))
    (ha : Ev X W pa a ra) (hb : Ev X W pb b rb) (hc : Ev X W pc c rc) (hm : lastMarks [op, op'] [b, c] = false := by with_unfolding_all rfl) {q_ : Bool} (hq_ : (pa && (pb && pc)) = q_ := by rfl) :
    Tv X W q_ (.Compare a [op, op'] [b, c] pos) (vChainI f1 f2 ra rb rc) := by
  subst hq_
  obtain ⟨ta, ea, sa⟩ := ha.ex
  obtain ⟨tb, eb, sb⟩ := hb.ex
  obtain ⟨tc, ec, sc⟩ := hc.ex
  refine ⟨_, pt_chain ho ho' ea eb ec hm, fun S AA H σ ρ φ ε Q r l hQ h => ?_⟩
  refine sa S AA H σ ρ _ ε _ r l (fun v1 H1 o1 ρ1 A1 h1 r1 x1 p1 => ?_) h
  obtain ⟨T, A, eT, r1', J⟩ := RelA.under (ts := [some v1]) (us := [o1]) (xs := σ) (os := ρ1) r1 rfl pb
  subst eT
  refine sb _ A H1 σ ρ1 _ ε _ r1' (l.step x1).under (fun v2 H2 o2 ρ2 A2 h2 r2 x2 p2 => ?_) h1
  obtain ⟨r3, x3⟩ := J A2 H2 (some v2 :: σ) (o2 :: ρ2) x2 r2 fun e => (p2 e).2
  split at h2
  next i j =>
    have r4 : RelA X.K S (T ++ A2) H2 (some v1 :: some v2 :: σ) (.sh (.sc (.int i)) :: .sh (.sc (.int j)) :: ρ2) := by
      cases pb with
      | true => exact r3
      | false => exact r3
    obtain ⟨e1, A3, r5, s5⟩ := shI r4
    obtain ⟨e2, A4, r6, s6⟩ := shI r5
    subst e1 e2
    have X6 : Ext AA H A4 H2 := ((x1.trans x3).sub s5).sub s6
    refine ⟨i, j, rfl, rfl, f1 i j, rfl, ?_⟩
    cases ef : f1 i j with
    | false =>
      rw [ef] at h2
      rw [if_neg Bool.false_ne_true] at h2 ⊢
      exact ⟨false, rfl, hQ false H2 ρ2 A4 h2 r6 X6 fun e => by
        obtain ⟨ea, eb⟩ := and2 e
        obtain ⟨eb, ec⟩ := and2 eb
        exact ⟨(p2 eb).1.trans (p1 ea).1, Same.trans (p1 ea).2 (p2 eb).2⟩⟩
    | true =>
      rw [ef] at h2
      rw [if_pos rfl] at h2 ⊢
      refine sc S A4 H2 σ ρ2 _ ε _ r6 (l.step X6) (fun v3 H3 o3 ρ3 A5 h3 r7 x7 p3 => ?_) h2
      split at h3
      next k =>
        obtain ⟨e3, A6, r8, s8⟩ := shI r7
        subst e3
        exact ⟨j, k, rfl, rfl, f2 j k, rfl, hQ (f2 j k) H3 ρ3 A6 h3 r8 ((X6.trans x7).sub s8) fun e => by
          obtain ⟨ea, eb⟩ := and2 e
          obtain ⟨eb, ec⟩ := and2 eb
          exact ⟨(p3 ec).1.trans ((p2 eb).1.trans (p1 ea).1), Same.trans (p1 ea).2 (Same.trans (p2 eb).2 (p3 ec).2)⟩⟩
      · exact h3.elim
  · exact h2.elim
theorem Room.u1 {k : Nat} {A : Around} (r : Room k A) : A.units + 1 < cLine := by have := r.un; omega
theorem Room.u64 {k : Nat} {A : Around} (r : Room k A) : A.units + 64 < cLine := by have := r.un; omega
theorem Room.u65 {k : Nat} {A : Around} (r : Room k A) : A.units + 65 < cLine := by have := r.un; omega

/-! ### a, b = x, y -/
def vPar (i j : Nat) (ra : VA) : VS := fun ρ k ε => ra ρ (fun os ρ1 => match os with
  | [a, b] => k.nx ((ρ1.set i a).set j b)
  | _ => False) ε
def vPar3 (i j l : Nat) (ra : VA) : VS := fun ρ k ε => ra ρ (fun os ρ1 => match os with
  | [a, b, c] => k.nx (((ρ1.set i a).set j b).set l c)
  | _ => False) ε
section
variable {K : PySem.W.Frag} {W : WX} {p : Bool} {io : List Nat} {i j l : Nat} {t : TA} {ra : VA}
theorem stOk2 {σ : L2.St} {x y : Option V} (hi : io.contains i = false) (hj : io.contains j = false) : StOk io σ ((σ.set i x).set j y) := (stOk_set hi).trans (stOk_set hj)
theorem snd_par (hi : io.contains i = false) (hj : io.contains j = false) (ha : SndA K W p t ra) : SndS K W io (tPar i j t) (vPar i j ra) := by
  intro S AA H σ ρ k ε D r l hn hr hb hc h
  refine ha S AA H σ ρ _ ε _ r l.e (fun vs H1 os ρ1 A1 h1 hl r1 x1 p1 => ?_) h
  split at h1
  next a b =>
    obtain ⟨v, w, rfl⟩ := len2 hl
    replace r1 : RelA K S A1 H1 (some v :: some w :: σ) (a :: b :: ρ1) := r1
    obtain ⟨A2, r2, s2⟩ := r1.store (i + 1)
    replace r2 : RelA K S A2 H1 (some w :: σ.set i (some v)) (b :: ρ1.set i a) := r2
    obtain ⟨A3, r3, s3⟩ := r2.store j
    exact ⟨v, w, rfl, hn _ H1 _ A3 h1 (stOk2 hi hj) r3 (x1.sub fun c hc => s2 c (s3 c hc))⟩
  · exact h1.elim
theorem snd_par3 (hi : io.contains i = false) (hj : io.contains j = false) (hl' : io.contains l = false) (ha : SndA K W p t ra) : SndS K W io (L2.tPar3 i j l t) (vPar3 i j l ra) := by
  intro S AA H σ ρ k ε D r lk hn hr hb hc h
  refine ha S AA H σ ρ _ ε _ r lk.e (fun vs H1 os ρ1 A1 h1 hl r1 x1 p1 => ?_) h
  split at h1
  next a b c =>
    obtain ⟨v, w, u, rfl⟩ := len3 hl
    replace r1 : RelA K S A1 H1 (some v :: some w :: some u :: σ) (a :: b :: c :: ρ1) := r1
    obtain ⟨A2, r2, s2⟩ := r1.store (i + 1 + 1)
    replace r2 : RelA K S A2 H1 (some w :: some u :: σ.set i (some v)) (b :: c :: ρ1.set i a) := r2
    obtain ⟨A3, r3, s3⟩ := r2.store (j + 1)
    replace r3 : RelA K S A3 H1 (some u :: (σ.set i (some v)).set j (some w)) (c :: (ρ1.set i a).set j b) := r3
    obtain ⟨A4, r4, s4⟩ := r3.store l
    exact ⟨v, w, u, rfl, hn _ H1 _ A4 h1 ((stOk2 hi hj).trans (stOk_set hl')) r4 (x1.sub fun c hc => s2 c (s3 c (s4 c hc)))⟩
  · exact h1.elim
end
section
variable {X : Cx} {W : WX} {p : Bool} {io : List Nat} {i j l : Nat} {x y z : Str} {a b c : Expr} {ra : VA} {px py pz pt pos : Pos} {kt k2 : Nat} {pt2 : Pos}
theorem sv_par (hc : X.calm = true) (hN : X.N.Nodup) (ha : Av X W p [a, b] ra) (hi : X.N[i]? = some x := by rfl) (hj : X.N[j]? = some y := by rfl) (hij : i ≠ j := by decide) (hx : X.env.scope.names.lookup x = some .local := by rfl) (hy : X.env.scope.names.lookup y = some .local := by rfl)
    (hw : swappedStores [.Tuple [.Name x px, .Name y py] kt pt] (.Tuple [a, b] k2 pt2) X.env = pure (some [x, y]) := by rfl)
    (hs : swapsWithSole [.Tuple [.Name x px, .Name y py] kt pt] (.Tuple [a, b] k2 pt2) pos.line X.env = pure false := by rfl) (h1 : io.contains i = false := by rfl) (h2 : io.contains j = false := by rfl) :
    Sv X W io (.Assign [.Tuple [.Name x px, .Name y py] kt pt] (.Tuple [a, b] k2 pt2) pos) (vPar i j ra) := by
  obtain ⟨t, ht, st⟩ := ha.ex
  exact ⟨_, ps_par hc hN hi hj hij hx hy ht hw hs, snd_par h1 h2 st⟩
theorem sv_par3 (hc : X.calm = true) (hN : X.N.Nodup) (ha : Av X W p [a, b, c] ra) (hi : X.N[i]? = some x := by rfl) (hj : X.N[j]? = some y := by rfl) (hl : X.N[l]? = some z := by rfl) (hij : i ≠ j := by decide) (hil : i ≠ l := by decide) (hjl : j ≠ l := by decide)
    (hx : X.env.scope.names.lookup x = some .local := by rfl) (hy : X.env.scope.names.lookup y = some .local := by rfl) (hz : X.env.scope.names.lookup z = some .local := by rfl)
    (hw : swappedStores [.Tuple [.Name x px, .Name y py, .Name z pz] kt pt] (.Tuple [a, b, c] k2 pt2) X.env = pure (some [x, y, z]) := by rfl)
    (hs : swapsWithSole [.Tuple [.Name x px, .Name y py, .Name z pz] kt pt] (.Tuple [a, b, c] k2 pt2) pos.line X.env = pure false := by rfl) (h1 : io.contains i = false := by rfl) (h2 : io.contains j = false := by rfl) (h3 : io.contains l = false := by rfl) :
    Sv X W io (.Assign [.Tuple [.Name x px, .Name y py, .Name z pz] kt pt] (.Tuple [a, b, c] k2 pt2) pos) (vPar3 i j l ra) := by
  obtain ⟨t, ht, st⟩ := ha.ex
  exact ⟨_, ps_par3 hc hN hi hj hl hij hil hjl hx hy hz ht hw hs, snd_par3 h1 h2 h3 st⟩
end
/-! ### names of operations -/
def gMod : O → O → (O → Prop) → Prop := gInt (fun _ j => 0 < j) fun i j => i % j
def gDiv : O → O → (O → Prop) → Prop := gInt CDivW fun i j => i / j
def gPow : O → O → (O → Prop) → Prop := gInt CPowV fun i j => i ^ j.toNat
def gLt : O → O → (O → Prop) → Prop := gCmp fun i j => decide (i < j)
def gLe : O → O → (O → Prop) → Prop := gCmp fun i j => decide (i ≤ j)
def gGt : O → O → (O → Prop) → Prop := gCmp fun i j => decide (j < i)
def gGe : O → O → (O → Prop) → Prop := gCmp fun i j => decide (j ≤ i)
theorem sr_neg {K : PySem.W.Frag} : Sr1 K (rU fun i => .int (-i)) (gI1 fun i => -i) := by
  intro S AA H x a xs us k Q r hQ h
  obtain ⟨d, e1, h⟩ := vw_of h
  have rd := r.read1 e1
  split at h
  · exact ⟨_, rd.scv, hQ _ H _ h (RelA.resS (.int _) (ts := [_]) (us := [_]) r rfl)⟩
  · exact h.elim
section
variable {X : Cx}
theorem op_eqW (hu : X.A.units + 64 < cLine) : OpR X (compareOp .Eq) (rEqU X.K false) := op_eqU false hu
theorem op_neW (hu : X.A.units + 64 < cLine) : OpR X (compareOp .NotEq) (rEqU X.K true) := op_eqU true hu
theorem op_isW : OpR X (compareOp .Is) (fun x y H Q => y = .non ∧ Q (.bl (nb false (decide (x = .non)))) H) := op_isN
theorem op_notW : OpR X (compareOp .IsNot) (fun x y H Q => y = .non ∧ Q (.bl (nb true (decide (x = .non)))) H) := op_notN
/-- in, also of a dict -/
def rInW (K : PySem.W.Frag) (neg : Bool) : R2 := fun x y H Q => rInU K neg x y H Q ∨ ∃ a o, y = .ref a ∧ DGet H a x o ∧ Q (.bl (nb neg o.isSome)) H
theorem op_inW (hu : X.A.units + 65 < cLine) : OpR X (compareOp .In) (rInW X.K false) := OpR.or (op_inU false hu) (by
  intro pins s σ H x y v u Q I rx ry h
  obtain ⟨a, o, rfl, g, q⟩ := h
  cases (show u = Value.ref a from ry)
  exact d_in (by omega) I g rx fun s3 I3 => ⟨.bl o.isSome, H, I3, rfl, q⟩)
theorem op_notInW (hu : X.A.units + 65 < cLine) : OpR X (compareOp .NotIn) (rInW X.K true) := OpR.or (op_inU true hu) (by
  intro pins s σ H x y v u Q I rx ry h
  obtain ⟨a, o, rfl, g, q⟩ := h
  cases (show u = Value.ref a from ry)
  exact d_notIn (by omega) I g rx fun s3 I3 => ⟨.bl (!o.isSome), H, I3, rfl, q⟩)
end
def gInW (neg : Bool) (a b : O) (k : O → Prop) : Prop := match partsOf b with
  | some (.dk ks, os) => vw a fun d => match keyD d with
    | some y => k (.sh (.sc (.bl (nb neg (getK ks os y).isSome))))
    | none => False
  | _ => gIn neg a b k
theorem sr_inW {K : PySem.W.Frag} {neg : Bool} : Sr2 K (rInW K neg) (gInW neg) := by
  intro S AA H x y a b xs us k Q r hQ h
  have other : gIn neg a b k → rInW K neg x y H Q := fun h => .inl (sr_in S AA H x y a b xs us k Q r hQ h)
  unfold gInW at h
  split at h
  next ks os ep =>
    obtain ⟨d, e1, h⟩ := vw_of h
    have p1 := r.read1 e1
    split at h
    next y0 ey =>
      obtain ⟨p, vs, A', ev, hsh, hps⟩ := r.partsAt (i := 1) rfl rfl ep
      obtain ⟨hl, hr⟩ := hsh.rdK
      have g := getK_val (k := y0) hps hl
      refine .inr ⟨p, valV (ks.zip vs) y0, ev, .inl ⟨_, y0, hr, keyD_kV p1 ey, rfl⟩, ?_⟩
      have e2 : (valV (ks.zip vs) y0).isSome = (getK ks os y0).isSome := by
        cases eo : getK ks os y0 with
        | none => rw [eo] at g; rw [g]; rfl
        | some q =>
          rw [eo] at g
          obtain ⟨v, A2, g1, _⟩ := g
          rw [g1]
          rfl
      rw [e2]
      exact hQ _ H _ h (RelA.resS (.bl _) (ts := [_, _]) (us := [_, _]) r rfl)
    · exact h.elim
  · exact other h
/-- a def's arguments by place -/
theorem binds0 {K : PySem.W.Frag} {x qual : Str} {params : Arguments} {body : List Stmt} {scope : Scope} {kws : List (Str × V)} {f : Addr} {fd : FuncData} {ps : List Str} (F : FunD K x qual params body scope [] kws f fd)
    (h : ∀ (kV doc pm : Value) (an : Option Addr) (cdv ct : Value) (us : List Value), us.length = ps.length → bindArgs (PySem.W.fnOf x qual params body scope .none kV doc pm an cdv ct) ⟨us, []⟩ = pure (ps.zip us)) : Binds K fd ps [] := F.bindsN h
end VL

/-! a name ahead of something that is not pure: read behind it -/
namespace VL
open PySem PySem.Spec L2
theorem rdO_val {K : PySem.W.Frag} {S : Addr → Prop} {AA : List Addr} {H : Hp} {σ : L2.St} {ρ : Env} {i : Nat} {k : O → Prop} (r : RelA K S AA H σ ρ) (h : rdO (envAt ρ i) k) : ∃ v u, σ[i]? = some (some v) ∧ k u ∧ RpO K H (fun a => S a ∨ a ∈ AA) (some v) u [] := by
  have go : ∀ (o u : O), envAt ρ i = o → o ≠ .top → k u → (∀ x A, RpO K H (fun a => S a ∨ a ∈ AA) x o A → ∃ v, x = some v ∧ RpO K H (fun a => S a ∨ a ∈ AA) (some v) u []) → ∃ v u, σ[i]? = some (some v) ∧ k u ∧ RpO K H (fun a => S a ∨ a ∈ AA) (some v) u [] := by
    intro o u e n hu hr
    obtain ⟨x, A, h1, h2⟩ := r.get (envAt_some e n)
    obtain ⟨v, ev, h3⟩ := hr x A h2
    rw [ev] at h1
    exact ⟨v, u, h1, hu, h3⟩
  cases e : envAt ρ i with
  | top => rw [e] at h; exact h.elim
  | pin v => rw [e] at h; exact h.elim
  | al a p =>
    rw [e] at h
    refine go _ _ e (by intro z; cases z) h fun x A p => ?_
    cases p with
    | al => exact ⟨_, rfl, .al⟩
  | nm a o =>
    rw [e] at h
    refine go _ _ e (by intro z; cases z) h fun x A p => ?_
    cases p with
    | nm a b => exact ⟨_, rfl, .bor (.nm a b)⟩
  | sh d =>
    rw [e] at h
    refine go _ _ e (by intro z; cases z) h fun x A p => ?_
    cases p with
    | sh p => exact ⟨_, rfl, .sh p⟩
  | bor o =>
    rw [e] at h
    refine go _ _ e (by intro z; cases z) h fun x A p => ?_
    cases p with
    | bor p => exact ⟨_, rfl, .bor p⟩
  | ow l cs =>
    rw [e] at h
    refine go _ _ e (by intro z; cases z) h fun x A p => ?_
    cases p with
    | ow a b d => exact ⟨_, rfl, .bor (.ow a b d)⟩
  | dp l cs =>
    rw [e] at h
    refine go _ _ e (by intro z; cases z) h fun x A p => ?_
    cases p with
    | dp a b d e => exact ⟨_, rfl, .bor (.dp a b d e)⟩
def vBinN (g : GN) (i : Nat) (rb : VE) : VE := fun ρ φ ε => (rdO (envAt ρ i) fun _ => True) ∧ rb ρ (fun ob ρ1 => rdO (envAt ρ1 i) fun oa => g [oa, ob] fun o => φ o ρ1) ε
section
variable {K : PySem.W.Frag} {W : WX} {pb : Bool} {tb : TE} {rb : VE} {i : Nat}
theorem snd_binN {rd : R2} {g : GN} (hs : Srv K (r2 rd) g) (hb : SndE K W pb tb rb) : SndE K W false (tOp rd (tVar i) tb) (vBinN g i rb) := by
  intro S AA H σ ρ φ ε Q r l hQ h
  obtain ⟨h0, h⟩ := h
  obtain ⟨v, u, hv, _, _⟩ := rdO_val r h0
  refine ⟨v, hv, ?_⟩
  refine hb S AA H σ ρ _ ε _ r l (fun v2 H2 o2 ρ2 A2 h2 r2 x2 p2 => ?_) h
  obtain ⟨v', u', hv', hk, hp2⟩ := rdO_val (i := i + 1) r2 (show rdO (envAt (o2 :: ρ2) (i + 1)) _ from h2)
  have e : v' = v := by
    have hv2 : σ[i]? = some (some v') := by simpa using hv'
    rw [hv] at hv2
    cases hv2
    rfl
  subst e
  exact hs S A2 H2 [v', v2] [u', o2] σ ρ2 _ Q (r2.push hp2) rfl (fun v3 H3 o3 A3 hk3 r3 x3 s3 => hQ v3 H3 o3 ρ2 A3 hk3 r3 (x2.trans x3) fun e => by cases e) hk
end
section
variable {X : Cx} {W : WX} {pb : Bool} {b : Expr} {rb : VE} {i : Nat} {x : Str} {np pos : Pos}
theorem ev_bopN {op : Operator} {rd : R2} {g : GN} (ho : OpR X (binaryOp op) rd) (hs : Srv X.K (r2 rd) g) (ha : PE X (.Name x np) (tVar i)) (hb : Ev X W pb b rb) : Ev X W false (.BinOp (.Name x np) op b pos) (vBinN g i rb) := by
  obtain ⟨tb, eb, sb⟩ := hb.ex
  exact ⟨_, pe_op ho ha eb, snd_binN hs sb⟩
theorem ev_cmpN {op : CmpOp} {rd : R2} {g : GN} (ho : OpR X (compareOp op) rd) (hs : Srv X.K (r2 rd) g) (ha : PE X (.Name x np) (tVar i)) (hb : Ev X W pb b rb) (hm : behindInMarks op b = false) : Ev X W false (.Compare (.Name x np) [op] [b] pos) (vBinN g i rb) := by
  obtain ⟨tb, eb, sb⟩ := hb.ex
  exact ⟨_, pe_cmpR ho ha eb hm, snd_binN hs sb⟩
theorem tv_cmpN {op : CmpOp} {rd : R2} {g : GN} (ho : OpR X (compareOp op) rd) (hs : Srv X.K (r2 rd) g) (ha : PE X (.Name x np) (tVar i)) (hb : Ev X W pb b rb) (hm : behindInMarks op b = false) : Tv X W false (.Compare (.Name x np) [op] [b] pos) (vTst (vBinN g i rb)) := by
  obtain ⟨tb, eb, sb⟩ := hb.ex
  exact ⟨_, pt_cmpR ho ha eb hm, snd_tst (snd_binN hs sb)⟩
theorem ev_ixN (hu : X.A.units + 1 < cLine) (ha : PE X (.Name x np) (tVar i)) (hb : Ev X W pb b rb) (hs : PlainIx b := by intro _ _; rfl) : Ev X W false (.Subscript (.Name x np) b pos) (vBinN (gn2 gIx) i rb) := by
  obtain ⟨tb, eb, sb⟩ := hb.ex
  exact ⟨_, pe_ix (ix_u hu) ha eb hs, snd_binN sr_ix.srv sb⟩
end
end VL

namespace VL
open PySem PySem.Spec L2

/-! ### plain words for proofs about readings -/
theorem wipeE_idem (ρ : Env) : ∀ vs : List Nat, wipeE (wipeE ρ vs) vs = wipeE ρ vs := by
  intro vs
  apply List.ext_getElem?
  intro i
  by_cases hi : i ∈ vs
  · by_cases hl : i < ρ.length
    · have top : ∀ (ρ : Env), i < ρ.length → (wipeE ρ vs)[i]? = some .top := by
        intro ρ hl
        rcases wipeE_top ρ hi with z | z
        · rw [List.getElem?_eq_none_iff, wipeE_len] at z
          omega
        · exact z
      rw [top _ hl, top _ (by rw [wipeE_len]; exact hl)]
    · rw [List.getElem?_eq_none (by rw [wipeE_len, wipeE_len]; omega), List.getElem?_eq_none (by rw [wipeE_len]; omega)]
  · have out : ∀ (ρ : Env) (vs : List Nat), i ∉ vs → (wipeE ρ vs)[i]? = ρ[i]? := by
      intro ρ vs
      induction vs with
      | nil => intro _; rfl
      | cons v vs ih =>
        intro h
        show ((wipeE ρ vs).set v .top)[i]? = _
        rw [List.getElem?_set_ne (show v ≠ i from fun e => h (by rw [e]; exact List.mem_cons_self)), ih fun z => h (List.mem_cons_of_mem _ z)]
    rw [out _ _ hi]
/-- .. all items, by f -/
theorem lc_map {g : VG} {re : VE} {vs : List Nat} {W : Env} {f : D → D} {φ : List D → Env → Prop} {ε : XP} : ∀ (ds : List D) {acc : List D} {ρ : Env}, wipeE ρ vs = W → acc.length + ds.length ≤ sizeLine →
    (∀ d ∈ ds, ∀ (φ' : O → Env → Prop), (∀ o ρ3, fz o = some (f d) → wipeE (ρ3.map kill) vs = W → φ' o ρ3) → g (.sh d) W fun ρ1 => re ρ1 φ' ε) →
    (∀ ρ2, wipeE ρ2 vs = W → φ (acc ++ ds.map f) ρ2) → vLcL g vYes re vs ds acc ρ φ ε
  | [], acc, ρ, hw, hz, he, h => by
    have := h ρ hw
    rw [List.map_nil, List.append_nil] at this
    exact this
  | d :: ds, acc, ρ, hw, hz, he, h => by
    show g (.sh d) (wipeE ρ vs) fun ρ1 => (if true = true then re ρ1 (fun o ρ3 => frD o fun x => acc.length < sizeLine ∧ vLcL g vYes re vs ds (acc ++ [x]) (ρ3.map kill) φ ε) ε else vLcL g vYes re vs ds acc ρ1 φ ε)
    rw [hw]
    simp only [if_true]
    refine he d List.mem_cons_self _ fun o ρ3 ho hw3 => ?_
    unfold frD
    rw [ho]
    rw [List.length_cons] at hz
    refine ⟨by omega, lc_map ds hw3 (by rw [List.length_append, List.length_singleton]; omega) (fun e he' => he e (List.mem_cons_of_mem _ he')) fun ρ2 hw2 => ?_⟩
    rw [List.append_assoc]
    exact h ρ2 hw2
/-- .. those with q, as they are or by f -/
theorem lc_filter {g : VG} {rt : VT} {re : VE} {vs : List Nat} {W : Env} {q : D → Bool} {f : D → D} {φ : List D → Env → Prop} {ε : XP} : ∀ (ds : List D) {acc : List D} {ρ : Env}, wipeE ρ vs = W → acc.length + ds.length ≤ sizeLine →
    (∀ d ∈ ds, ∀ (φ' : Bool → Env → Prop), (∀ ρ2, (q d = true → ∀ (ψ : O → Env → Prop), (∀ o ρ3, fz o = some (f d) → wipeE (ρ3.map kill) vs = W → ψ o ρ3) → re ρ2 ψ ε) → (q d = false → wipeE ρ2 vs = W) → φ' (q d) ρ2) → g (.sh d) W fun ρ1 => rt ρ1 φ' ε) →
    (∀ ρ2, wipeE ρ2 vs = W → φ (acc ++ (ds.filter q).map f) ρ2) → vLcL g rt re vs ds acc ρ φ ε
  | [], acc, ρ, hw, hz, he, h => by
    have := h ρ hw
    rw [List.filter_nil, List.map_nil, List.append_nil] at this
    exact this
  | d :: ds, acc, ρ, hw, hz, he, h => by
    show g (.sh d) (wipeE ρ vs) fun ρ1 => rt ρ1 (fun b ρ2 => if b = true then re ρ2 (fun o ρ3 => frD o fun x => acc.length < sizeLine ∧ vLcL g rt re vs ds (acc ++ [x]) (ρ3.map kill) φ ε) ε else vLcL g rt re vs ds acc ρ2 φ ε) ε
    rw [hw]
    rw [List.length_cons] at hz
    refine he d List.mem_cons_self _ fun ρ2 h1 h2 => ?_
    cases hq : q d with
    | true =>
      rw [if_pos rfl]
      refine h1 hq _ fun o ρ3 ho hw3 => ?_
      unfold frD
      rw [ho]
      refine ⟨by omega, lc_filter ds hw3 (by rw [List.length_append, List.length_singleton]; omega) (fun e he' => he e (List.mem_cons_of_mem _ he')) fun ρ4 hw2 => ?_⟩
      have := h ρ4 hw2
      rw [List.filter_cons_of_pos hq, List.map_cons] at this
      rw [List.append_assoc]
      exact this
    | false =>
      rw [if_neg Bool.false_ne_true]
      refine lc_filter ds (h2 hq) (by omega) (fun e he' => he e (List.mem_cons_of_mem _ he')) fun ρ4 hw2 => ?_
      have := h ρ4 hw2
      rw [List.filter_cons_of_neg (by rw [hq]; exact Bool.false_ne_true)] at this
      exact this
theorem fz_sh (d : D) : fz (.sh d) = some d := rfl
theorem blsOf_map {α : Type} (f : α → Bool) : ∀ xs : List α, blsOf (xs.map fun x => D.sc (.bl (f x))) = some (xs.map f)
  | [] => rfl
  | x :: xs => by
    show (match blsOf (xs.map fun x => D.sc (.bl (f x))) with | some bs => some (f x :: bs) | none => none) = _
    rw [blsOf_map f xs]
    rfl
theorem strsOf_map : ∀ xs : List Str, strsOf (xs.map strD) = some xs
  | [] => rfl
  | x :: xs => by
    show (match strsOf (xs.map strD) with | some bs => some (x :: bs) | none => none) = _
    rw [strsOf_map xs]
end VL

namespace VL
open PySem PySem.Spec L2

/-! ### raise -/
/-- raise C(..), C without own __init__: the arguments are read and let go -/
def vRaise (C : Addr) (ra : VA) : VS := fun ρ _ ε => ra ρ (fun os ρ1 => os.length ≤ sizeLine ∧ ε ⟨C, none⟩ ρ1) ε
theorem sv_raise {X : Cx} {W : WX} {io : List Nat} {p : Bool} {C : Addr} {bmB : List Value} {B newId initId : String} {x : Str} {pp pos pos' : Pos} {e : Expr} {es : List Expr} {ra : VA} (hc : X.calm = true) (tk : Takes X W) (F : ExcBaseFacts B newId initId bmB) (q : PySem.W.excIn X.K C bmB newId = true)
    (gC : X.mg x = some (.ref C)) (kC : PySem.W.keepIn X.K (.ref C) = true) (h1 : PySem.W.subIn X.K (.ref C) (.type "BaseException") = some true) (h2 : PySem.W.typeIn X.K (.ref C) = some (.type "type")) (ha : Av X W p (e :: es) ra) (hg : Gl X x := by rfl)
    (hdb : (x == ("__debug__" : Str)) = false := by decide) (he : starEach (e :: es) X.env = (false, eval e X.env) :: starEach es X.env := by rfl) (hpl : (PySem.backTo pos (starEach es X.env)).any (·.1) = false := by rfl) :
    Sv X W io (.Raise (some (.Call (.Name x pp) (e :: es) [] pos)) none pos') (vRaise C ra) := by
  obtain ⟨t, ht, st⟩ := ha.ex
  refine ⟨_, ps_raise hc tk (pmk_ownA F q gC kC (raises_own h1 h2) hg ht hdb he hpl), fun S AA H σ ρ k ε D r l hn hr hb hct h => ?_⟩
  refine st S AA H σ ρ _ ε _ r l.e (fun vs H1 os ρ1 A1 h1 hl r1 x1 p1 => ?_) h
  obtain ⟨hz, h1⟩ := h1
  obtain ⟨A2, r2, s2⟩ := RelA.dropN (ts := vs.map some) (us := os) r1 (by rw [List.length_map]; exact hl)
  exact ⟨by rw [hl]; exact hz, l σ _ _ H1 ρ1 ⟨C, none⟩ A2 .refl r2 (x1.sub s2) ⟨rfl, rfl⟩ h1⟩
/-- raise C(e), C's own __init__ keeps the argument as the field f -/
def vRaiseF (C : Addr) (f : Str) (ra : VA) : VS := fun ρ _ ε => ra ρ (fun os ρ1 => match os with
  | [o] => frD o fun d => ε ⟨C, some (f, d)⟩ ρ1
  | _ => False) ε
/-- what such an __init__ keeps -/
def spInitF (C : Addr) (f : Str) : Sp := fun vs H Q _ => ∃ a y, vs = [.ref a, y] ∧ H a = some (exo a C none) ∧ ∀ dx, H dx = none → dx ≠ a → Q .non (upd (upd H dx (exd dx [(f, y)])) a (exo a C (some dx)))
theorem sv_raiseF {X : Cx} {W : WX} {io : List Nat} {p : Bool} {CX : CXT} {C fI : Addr} {k : Nat} {fd : FuncData} {ps : List Str} {f x : Str} {pp pos pos' : Pos} {e : Expr} {ra : VA} (hc : X.calm = true) (tk : Takes X W) (T : OexC X.K C)
    (iC : PySem.W.findIn X.K (.ref C) "__init__" = some (some (.ref fI))) (tI : PySem.W.typeIn X.K (.ref fI) = some (.type "function")) (F1 : FnOk X.prog X.w X.K X.mg X.base CX k fI fd ps (spInitF C f)) (hr : Room (k + 1) X.A) (hb : Binds X.K fd ps []) (hx : Passes CX X (fun _ _ _ => False))
    (hm : X.mg x = some (.ref C)) (ha : Av X W p [e] ra) (hg : Gl X x := by rfl)
    (hdb : (x == ("__debug__" : Str)) = false := by decide) (he : starEach [e] X.env = (false, eval e X.env) :: starEach [] X.env := by rfl) (hpl : (PySem.backTo pos (starEach [] X.env)).any (·.1) = false := by rfl) :
    Sv X W io (.Raise (some (.Call (.Name x pp) [e] [] pos)) none pos') (vRaiseF C f ra) := by
  obtain ⟨t, ht, st⟩ := ha.ex
  refine ⟨_, ps_raise hc tk (pmk_oex (dvs := []) T iC tI F1 hr hb .nil hx hg hm ht hdb he hpl), fun S AA H σ ρ k ε D r l hn hr hb hct h => ?_⟩
  refine st S AA H σ ρ _ ε _ r l.e (fun vs H1 os ρ1 A1 h1 hl r1 x1 p1 => ?_) h
  split at h1
  next o =>
    obtain ⟨y, rfl⟩ := len1 hl
    obtain ⟨d, ed, h1⟩ := frD_of h1
    obtain ⟨A2, r2, hy, s2⟩ := RelA.fz1 (xs := σ) (os := ρ1) r1 ed
    refine ⟨by show 1 ≤ 1000; omega, fun a ha => ?_⟩
    refine ⟨a, y, rfl, upd_same, fun dx hdx hne => ⟨rfl, dx, [(f, y)], by rw [upd_same], by rw [upd_ne hne, upd_same], ?_, ?_⟩⟩
    · rwa [upd_ne hne] at hdx
    · have hd0 : H1 dx = none := by rwa [upd_ne hne] at hdx
      have eH : upd (del (upd (upd (upd H1 a (exo a C none)) dx (exd dx [(f, y)])) a (exo a C (some dx))) a) dx (.xd [(f, y)]) = upd H1 dx (.xd [(f, y)]) := by
        funext b
        by_cases e1 : b = dx
        · rw [e1, upd_same, upd_same]
        · rw [upd_ne e1, upd_ne e1]
          by_cases e2 : b = a
          · rw [e2, del_same, ha]
          · rw [del_ne e2, upd_ne e2, upd_ne e1, upd_ne e2]
      rw [eH]
      have sm : Same H1 (upd H1 dx (.xd [(f, y)])) := same_new hd0
      have k1 : Keep H1 (upd H1 dx (.xd [(f, y)])) (fun a => S a ∨ a ∈ A2) (fun a => S a ∨ a ∈ A2) := Keep.same sm fun _ _ nb _ => nb
      have r3 : RelA X.K S A2 (upd H1 dx (.xd [(f, y)])) σ ρ1 := ⟨r2.rp.pure k1 sm _, r2.nd, r2.ns, fun b hb => by
        obtain ⟨u, e⟩ := r2.st b hb
        exact ⟨u, sm b u e⟩⟩
      have ndx : ¬ (fun a => S a ∨ a ∈ A2) dx := by
        intro z
        rcases z with z | z
        · obtain ⟨u, e⟩ := r2.st dx z
          rw [hd0] at e
          cases e
        · obtain ⟨u, e⟩ := RpOs.tracked _ r2.rp dx z
          rw [hd0] at e
          cases e
      exact l σ _ _ _ ρ1 ⟨C, some (f, d)⟩ A2 .refl r3 ((x1.sub s2).trans (Ext.same sm fun a ha => .inr ha)) ⟨rfl, dx, y, rfl, ndx, upd_same, hy.keep k1⟩ h1
  · exact h1.elim

/-! ### B.__init__(self, ..), B an own class that has ValueError's; an __init__ of one field -/
/-- what the written part says of B -/
structure BInit (K : PySem.W.Frag) (C0 : Addr) : Prop where
  ty : PySem.W.typeIn K (.ref C0) = some (.type "type")
  rd : PySem.W.readsIn K C0 (.type "type") = true
  fi : PySem.W.findCls K (.ref C0) (.type "type") "__init__" = some (.val (.builtin "ValueError.__init__"))
  ga : PySem.W.specialIn K (.ref C0) "__getattribute__" = some (some (.builtin "type.__getattribute__"))
theorem pe_ceinit {X : Cx} {e : Expr} {es : List Expr} {ta : TA} {x0 : Str} {C0 : Addr} {p1 p2 pos : Pos} {pl : Sem Bool} (B : BInit X.K C0) (hg : Gl X x0) (hm : X.mg x0 = some (.ref C0)) (hdb : (x0 == ("__debug__" : Str)) = false) (ha : PA X (e :: es) ta)
    (hc : eval (.Call (.Attribute (.Name x0 p1) "__init__" p2) (e :: es) [] pos) X.env = (do
      let ov ← eval (.Name x0 p1) X.env
      standAt p2.atName
      let (f, first) ← holding [ov] (getMethod ov "__init__" pl)
      callWith pos f first (PySem.backTo pos (starEach (e :: es) X.env)) (backToKw pos (keywordEach [] X.env))) := by rfl)
    (he : starEach (e :: es) X.env = (false, eval e X.env) :: starEach es X.env := by rfl) (hpl : (PySem.backTo pos (starEach es X.env)).any (·.1) = false := by rfl) :
    PE X (.Call (.Attribute (.Name x0 p1) "__init__" p2) (e :: es) [] pos) (tVeI X.K ta) := by
  constructor
  intro pins s σ H Q I h
  refine PySem.W.methodCall_KW (ld_glob I hg hm ?_ hdb) hc
  obtain ⟨m, fr⟩ := I.fr
  refine PySem.W.method_of_cls fr I.ok.mod.kin B.ga (PySem.W.cls_val fr I.ok.mod.kin B.ty B.rd B.fi (by decide +kernel) ?_)
  show wpAny _ _ (callWith pos (Value.builtin "ValueError.__init__") [] (PySem.backTo pos (starEach (e :: es) X.env)) []) _ _ _
  refine PyProof.Rows.callWith_method1 (thn (ha.run pos pins _ σ H _ (I.tok _) h) fun us s1 hh => ?_) he hpl
  obtain ⟨vs, H1, I1, r1, a, C, ws, ev, hl, T, ea, q⟩ := hh
  subst ev
  cases r1 with
  | @cons _ u0 _ ur ra rw' =>
    have e0 : u0 = Value.ref a := ra
    subst e0
    have hlen : ur.length ≤ sizeLine := by
      have e1 := Paired.length rw'
      have e2 : sizeLine = 16777216 := sizeLine_eq
      omega
    exact oinit_ok T I1 ea hlen fun s' J => ⟨.non, H1, J, rfl, q⟩
theorem ok_initF {P : Program} {w : World} {K : PySem.W.Frag} {mg : Str → Option Value} {base : Heap} {CX : CXT} {C C0 fI : Addr} {fd : FuncData} {x0 msg f qual : Str} {params : Arguments} {body : List Stmt} {scope : Scope} {kws : List (Str × V)} {N : List Str}
    (F : FunD K "__init__" qual params body scope [] kws fI fd) (Sc : FnScope N ["self", f] scope) (T : OexC K C) (hno : PySem.W.findIn K (.ref C) f = some none)
    (hbody : ∀ (cdv : Value) (A : Around) (outer : List PySem.Env) (s : Shared) (H : Hp) (E : XK), PSs (cxOf CX P w K mg base N qual scope fI cdv A outer s H E) body (tSeq (tDrop (tVeI K (tCons (tVar 0) (tCons (tC (.str msg)) tNil)))) (tOst K f (tVar 0) (tVar 1)))) :
    FnOk P w K mg base CX 1 fI fd ["self", f] (spInitF C f) := by
  refine F.ok Sc (fun vs H Q E h => ?_) (fun cdv A outer s H vs Q E hr h => ⟨_, hbody cdv A outer s H E, ?_⟩)
  · obtain ⟨a, y, rfl, _⟩ := h
    rfl
  · obtain ⟨a, y, rfl, ha, hq⟩ := h
    have s0 : (start N [.ref a, y])[0]? = some (some (.ref a)) := rfl
    have s1 : (start N [.ref a, y])[1]? = some (some y) := rfl
    refine ⟨_, s0, a, C, [.str msg], rfl, by show 1 ≤ 1000; omega, T, ha, ?_⟩
    exact ⟨_, s1, _, s0, a, C, rfl, T, hno, .inl ⟨ha, hq⟩⟩
end VL

namespace VL
open PySem PySem.Spec L2

/-! ### try: body / except C as n: suite / except ..: (never looked at) -/
/-- what the first clause wishes: every exception of the body is its own -/
def wFst (K : PySem.W.Frag) (c : Value) (i : Nat) (ts : Addr → Value → Option Addr → TS) (D : Ends) : WX := fun cls d σ H =>
  PySem.W.exmOne K cls c = some true ∧ ∀ a, H a = none → ts a cls d { nx := fun σ' H' => D.nx (σ'.set i none) H', rt := D.rt, bk := fun σ' H' => D.bk (σ'.set i none) H', ct := fun σ' H' => D.ct (σ'.set i none) H' } (σ.set i (some (.ref a))) H
theorem ps_try_fst {X : Cx} {x n : Str} {c : Value} {i : Nat} {body suite : List Stmt} {b0 : Stmt} {hds : List ExceptHandler} {np pos pos' : Pos} {tb : WX → TS} {ts : Addr → Value → Option Addr → TS} (hs : X.stack = X.env :: X.outer) (hf : X.env.frame = some X.env.locals)
    (hN : X.N.Nodup) (hi : X.N[i]? = some n) (hln : X.env.kindOf n = some .local) (hc : Names X x c)
    (hb : ∀ (W : WX) (pn : List (Addr × Obj)) (xe : Value → Shared → Prop), Takes (X.tr pn xe) W → PassesOwn (model X.prog X.w) X.A X.env xe → PSs (X.tr pn xe) body (tb W))
    (hsu : ∀ (a : Addr) (oe : Obj) (cls : Value) (d : Option Addr) (pn : List (Addr × Obj)), Zc cls d oe → (∃ vs, oe.data = .fields vs) → PSs (X.suite a ((a, oe) :: pn)) (b0 :: suite) (ts a cls d)) :
    PS X (.Try body (.ExceptHandler (some (.Name x np)) (some n) (b0 :: suite) pos' :: hds) [] [] pos) (fun D σ H => tb (wFst X.K c i ts D) D σ H) := by
  constructor
  intro pins s σ H D I h
  have ok := I.ok
  have frames : X.A.frames = some (X.env :: X.outer) := ok.frames.trans (by rw [hs])
  have hloc : Loc X.env.scope n := .inl hln
  refine wpAny_Try_except ?_
  have run := (hb (wFst X.K c i ts D) (X.pn ++ pins) (fun e s1 => wpAny (model X.prog X.w) X.A (noteFrame e X.env) (fun _ s2 => wpAny (model X.prog X.w) X.A (setFlight e none) (fun _ s3 =>
    wpAny (model X.prog X.w) X.A (handleBy e X.env (.ExceptHandler (some (.Name x np)) (some n) (b0 :: suite) pos' :: hds)) (SP X pins D) X.xe s3) X.xe s2) X.xe s1) (fun u s' xx => ?caught) PassesOwn.looking).run [] s σ H D (I.toTry _) h
  case caught =>
    obtain ⟨a, B, sI, pins', σ', H', cls, d, rfl, J', nb, up, sky, na, os, ag, hb1, hyes⟩ := xx
    have J : Inv X pins σ' H' sI := J'.ofTry ok
    have sky2 : Sky B (X.env :: X.outer) a (Zc cls d) X.env.locals s'.heap := hs ▸ sky
    show wpAny (model X.prog X.w) X.A (noteFrame (.ref a) X.env) _ _ _
    refine Sky.land Zc.steady frames hf sky2 fun h3 fl3 up3 => ?_
    have J3 : Inv X pins σ' H' { s' with heap := h3 } := J.landed nb fl3.1 (up.trans up3) os ag
    obtain ⟨oe3, vs3, he3, hz3, hd3⟩ := fl3.there
    have nfr : a ∉ frs (X.env :: X.outer) := fun hm => by
      obtain ⟨_, o', e', hnf⟩ := fl3.2.2.1.mem hm
      rw [he3] at e'
      cases e'
      exact hnf _ hd3
    have nL : a ≠ X.env.locals := fun z => nfr (List.mem_filterMap.mpr ⟨X.env, List.mem_cons_self, hf.trans (by rw [z])⟩)
    have nF : a ∉ X.fs := fun hm => by
      obtain ⟨e1, he1, q1⟩ := List.mem_filterMap.mp hm
      exact nfr (List.mem_filterMap.mpr ⟨e1, List.mem_cons_of_mem _ he1, q1⟩)
    have S3 := J3.suite he3 hd3 na nL nF
    refine wpAny_handleBy_cons (codeAny_handlers_test ?_) (by intro q; cases q)
    have LT : PySem.W.Looks (model X.prog X.w) h3 (typeOf (.ref a)) cls := fun A Q E s k q => wpAny_typeOf_ref (k _ _ he3) (by rw [hz3.1]; exact q)
    have LM := PySem.W.exm_one (M := model X.prog X.w) J3.kIn LT hb1
    have test : ∀ {Q : Value → Shared → Prop} {E : Value → Shared → Prop}, Q c { s' with heap := h3 } → wpAny (model X.prog X.w) (X.A.mark (some (.ref a))) (eval (.Name x np) X.env) Q E { s' with heap := h3 } := by
      intro Q E q
      obtain ⟨hg, hdbg, hm⟩ := hc
      rcases hm with hm | ⟨hm, hv, hnn⟩
      · exact ld_glob (X := X.suite a ((a, oe3) :: (X.pn ++ pins))) S3 hg hm q hdbg
      · exact ld_blt (X := X.suite a ((a, oe3) :: (X.pn ++ pins))) S3 hg hm hv q hnn hdbg
    refine test (LM.here (codeAny_handlers_suite_as (HandSPX.lands_againZ fl3 fun h4 fl4 up4 => ?_)))
    have J4 : Inv X pins σ' H' { s' with heap := h4 } := J.landed nb fl4.1 ((up.trans up3).trans up4) os ag
    obtain ⟨oe4, vs4, he4, hz4, hd4⟩ := fl4.there
    have S4 := J4.suite he4 hd4 na nL nF
    refine store_ok (X := X.suite a ((a, oe4) :: (X.pn ++ pins))) (v := .ref a) S4 hN hi hloc rfl (fun s5 S5 => ?_) (.inr hln)
    have sr := (hsu a oe4 cls d (X.pn ++ pins) hz4 ⟨_, hd4⟩).run [] s5 _ H' _ S5 (hyes a na)
    have end_ : ∀ {σ6 : L2.St} {H6 : Hp} {s6 : Shared} {Q : Shared → Prop}, Inv (X.suite a ((a, oe4) :: (X.pn ++ pins))) [] σ6 H6 s6 → (∀ s7, Inv X pins (σ6.set i none) H6 s7 → Q s7) →
        wpAny (model X.prog X.w) X.A (do bindName X.env n .none; unbindBehindTheSuite X.env n pos') (fun _ s7 => Q s7) X.xe s6 := by
      intro σ6 H6 s6 Q S6 hq
      exact gone_ok (S6.unsuite ok) hN hi hln hq
    refine wpAny_mono sr (fun f s6 hsp => ?_) (fun _ _ z => False.elim z)
    cases f with
    | ret u =>
      obtain ⟨v6, σ6, H6, S6, r6, q6⟩ := hsp
      exact end_ S6 fun s7 J7 => ⟨_, _, _, J7, r6, q6⟩
    | next =>
      obtain ⟨σ6, H6, S6, q6⟩ := hsp
      exact end_ S6 fun s7 J7 => ⟨_, _, J7, q6⟩
    | brk =>
      obtain ⟨σ6, H6, S6, q6⟩ := hsp
      exact end_ S6 fun s7 J7 => ⟨_, _, J7, q6⟩
    | cont =>
      obtain ⟨σ6, H6, S6, q6⟩ := hsp
      exact end_ S6 fun s7 J7 => ⟨_, _, J7, q6⟩
  refine wpAny_mono run (fun f s1 hsp => ?_) (fun e s1 he => he)
  cases f with
  | ret u =>
    obtain ⟨v, σ', H', J', r, q⟩ := hsp
    exact ⟨v, σ', H', J'.ofTry ok, r, q⟩
  | next =>
    obtain ⟨σ', H', J', q⟩ := hsp
    exact wpAny_execs_nil ⟨σ', H', J'.ofTry ok, q⟩
  | brk =>
    obtain ⟨σ', H', J', q⟩ := hsp
    exact ⟨σ', H', J'.ofTry ok, q⟩
  | cont =>
    obtain ⟨σ', H', J', q⟩ := hsp
    exact ⟨σ', H', J'.ofTry ok, q⟩

/-! ### .. over values -/
/-- the caught exception as data: the exception a, its dict d -/
def excO (a : Addr) (d : Option Addr) (C : Addr) (f : Option (Str × D)) : O := match f, d with
  | some (g, x), some d => .sh (.nd (.exc a d C [g]) [x])
  | _, _ => .top
def vTryFst (C : Addr) (i : Nat) (rb : VS) (rs : Addr → Option Addr → VS) : VS := fun ρ k ε => rb ρ k (fun exc ρ1 => exc.C = C ∧ ∀ a d, (∀ p, exc.f = some p → d.isSome = true) → rs a d (ρ1.set i (excO a d C exc.f)) { nx := fun ρ2 => k.nx (ρ2.set i .top), rt := k.rt, bk := fun ρ2 => k.bk (ρ2.set i .top), ct := fun ρ2 => k.ct (ρ2.set i .top) } (fun _ _ => False))
theorem never_pss {X : Cx} {st : List Stmt} : PSs X st (fun _ _ _ => False) := ⟨fun _ _ _ _ _ _ h => h.elim⟩
theorem noLinkS {K : PySem.W.Frag} {S : Addr → Prop} {AA : List Addr} {H : Hp} {W : WX} {io : List Nat} {σ : L2.St} : LinkS K S AA H W io σ (fun _ _ => False) := fun _ _ _ _ _ _ _ _ _ _ _ h => h.elim
theorem sv_try_fst {X : Cx} {W : WX} {io : List Nat} {x n : Str} {C : Addr} {i : Nat} {body suite : List Stmt} {b0 : Stmt} {hds : List ExceptHandler} {np pos pos' : Pos} {rb : VS} {rs : Addr → Option Addr → VS} (hs : X.stack = X.env :: X.outer) (hf : X.env.frame = some X.env.locals)
    (hN : X.N.Nodup) (hC : X.mg x = some (.ref C)) (hex : PySem.W.exmOne X.K (.ref C) (.ref C) = some true)
    (hb : ∀ (W : WX) (pn : List (Addr × Obj)) (xe : Value → Shared → Prop), Takes (X.tr pn xe) W → PassesOwn (model X.prog X.w) X.A X.env xe → Bv (X.tr pn xe) W io body rb)
    (hsu : ∀ (a : Addr) (oe : Obj) (d : Option Addr) (pn : List (Addr × Obj)), Zc (.ref C) d oe → (∃ vs, oe.data = .fields vs) → Bv (X.suite a ((a, oe) :: pn)) (fun _ _ _ _ => False) io (b0 :: suite) (rs a d))
    (hi : X.N[i]? = some n := by rfl) (hln : X.env.kindOf n = some .local := by rfl) (hio : io.contains i = false := by rfl) (hg : Gl X x := by rfl) (hdb : (x == ("__debug__" : Str)) = false := by decide) :
    Sv X W io (.Try body (.ExceptHandler (some (.Name x np)) (some n) (b0 :: suite) pos' :: hds) [] [] pos) (vTryFst C i rb rs) := by
  -- one reading for every wish, every start
  let tb : WX → TS := fun W D σ H => ∀ pn xe (h1 : Takes (X.tr pn xe) W) (h2 : PassesOwn (model X.prog X.w) X.A X.env xe), (hb W pn xe h1 h2).ex.choose D σ H
  let ts : Addr → Value → Option Addr → TS := fun a cls d D σ H => cls = .ref C ∧ ∀ oe pn (h1 : Zc (.ref C) d oe) (h2 : ∃ vs, oe.data = .fields vs), (hsu a oe d pn h1 h2).ex.choose D σ H
  refine ⟨_, ps_try_fst (c := .ref C) (tb := tb) (ts := ts) (hds := hds) hs hf hN hi hln ⟨hg, hdb, .inl hC⟩ (fun W pn xe h1 h2 => ?_) (fun a oe cls d pn h1 h2 => ?_), ?_⟩
  · exact ⟨fun pins s σ H D I h => ((hb W pn xe h1 h2).ex.choose_spec.1).run pins s σ H D I (h pn xe h1 h2)⟩
  · refine ⟨fun pins s σ H D I h => ?_⟩
    obtain ⟨e, h⟩ := h
    subst e
    exact ((hsu a oe d pn h1 h2).ex.choose_spec.1).run pins s σ H D I (h oe pn h1 h2)
  · intro S AA H σ ρ k ε D r l hn hr hbk hct h
    show tb (wFst X.K (.ref C) i ts D) D σ H
    intro pn xe h1 h2
    refine (hb _ pn xe h1 h2).ex.choose_spec.2 S AA H σ ρ k _ D r (fun σ1 cls d H1 ρ1 exc A1 so r1 x1 xr he => ?_) hn hr hbk hct h
    obtain ⟨eC, he⟩ := he
    obtain ⟨ecls, xf⟩ := xr
    rw [eC] at ecls
    subst ecls
    refine ⟨hex, fun a ha => ⟨rfl, fun oe pn h3 h4 => ?_⟩⟩
    -- the exception comes to its slot
    have ro : RpO X.K H1 (fun b => S b ∨ b ∈ A1) (some (.ref a)) (excO a d C exc.f) [] := by
      cases ef : exc.f with
      | none => exact .top
      | some p =>
        obtain ⟨g, x⟩ := p
        rw [ef] at xf
        obtain ⟨d0, v, ed, nb, hd0, hx⟩ := xf
        subst ed
        exact .sh (.nd (vs := [v]) (.inr ⟨rfl, nb, rfl, hd0⟩) (.cons hx .nil))
    obtain ⟨A2, r2, s2⟩ := (r1.push ro).store i
    have X2 : Ext AA H A2 H1 := x1.sub s2
    have SO : StOk io σ (σ1.set i (some (.ref a))) := so.trans (stOk_set hio)
    have gone : ∀ {σ' : L2.St} {H' : Hp} {ρ' : Env} {AA' : List Addr}, RelA X.K S AA' H' σ' ρ' → ∃ A5, RelA X.K S A5 H' (σ'.set i none) (ρ'.set i .top) ∧ ∀ b ∈ A5, b ∈ AA' := fun r' => r'.forget i none
    refine (hsu a oe d pn h3 h4).ex.choose_spec.2 S A2 H1 _ _ _ _ _ r2 noLinkS (fun σ' H' ρ' AA' h5 so5 r5 x5 => ?_) (fun v σ' H' o ρ' AA' h5 so5 r5 x5 => ?_) (fun σ' H' ρ' AA' h5 so5 r5 x5 => ?_) (fun σ' H' ρ' AA' h5 so5 r5 x5 => ?_) (he a d fun p ep => by
      obtain ⟨g, x⟩ := p
      rw [ep] at xf
      obtain ⟨d0, v, ed, _⟩ := xf
      rw [ed]
      rfl)
    · obtain ⟨A5, r6, s6⟩ := gone r5
      exact hn _ H' _ A5 h5 ((SO.trans so5).trans (stOk_set hio)) r6 ((X2.trans x5).sub s6)
    · exact hr v σ' H' o ρ' AA' h5 (SO.trans so5) r5 (X2.trans x5)
    · obtain ⟨A5, r6, s6⟩ := gone r5
      exact hbk _ H' _ A5 h5 ((SO.trans so5).trans (stOk_set hio)) r6 ((X2.trans x5).sub s6)
    · obtain ⟨A5, r6, s6⟩ := gone r5
      exact hct _ H' _ A5 h5 ((SO.trans so5).trans (stOk_set hio)) r6 ((X2.trans x5).sub s6)
/-- e.f of the caught exception -/
def vXf (a : Addr) (d : Option Addr) (C : Addr) (f : Str) (re : VE) : VE := fun ρ φ ε => re ρ (fun o ρ1 => match o with
  | .sh (.nd (.exc a' d' C' [g]) [x]) => (a' = a ∧ d = some d' ∧ C' = C ∧ g = f) ∧ φ (.sh x) ρ1
  | _ => False) ε
theorem ev_xf {X : Cx} {W : WX} {p : Bool} {a C : Addr} {oe : Obj} {d : Option Addr} {pn : List (Addr × Obj)} {e : Expr} {re : VE} {pos : Pos} {n : Str} (T : XfC X.K C) (hno : PySem.W.findIn X.K (.ref C) n = some none)
    (hz : Zc (.ref C) d oe) (hf : ∃ vs, oe.data = .fields vs) (he : Ev (X.suite a ((a, oe) :: pn)) W p e re) (hb : attributeBase e n X.env (eval e X.env) = eval e X.env := by rfl) : Ev (X.suite a ((a, oe) :: pn)) W p (.Attribute e n pos) (vXf a d C n re) := by
  obtain ⟨t, ht, st⟩ := he.ex
  refine ⟨_, pe_xf T hno hz hf ht hb, fun S AA H σ ρ φ ε Q r l hQ h => ?_⟩
  refine st S AA H σ ρ _ ε _ r l (fun v H1 o ρ1 A1 h1 r1 x1 p1 => ?_) h
  split at h1
  next a' d' C' g x =>
    obtain ⟨⟨rfl, rfl, rfl, rfl⟩, h1⟩ := h1
    obtain ⟨y, A, e1, e2⟩ := r1.get (i := 0) rfl
    cases e1
    cases e2 with
    | sh q =>
      cases q with
      | @nd b _ vs _ q1 q2 =>
        rcases q1 with ⟨_, u, _, c⟩ | q1
        · rcases c with c | ⟨_, _, _, c, _⟩
          · exact c.elim
          · exact c.elim
        · obtain ⟨e3, nb, e4, e5⟩ := q1
          cases q2 with
          | cons q3 q4 =>
            cases q4
            obtain ⟨A2, r2, s2⟩ := r1.drop1
            refine ⟨by rw [e3], rfl, d', _, _, rfl, e5, ?_, hQ _ H1 _ ρ1 A2 h1 (r2.push (.sh (q3.keep (Keep.here fun b z => z.imp_right (s2 b))))) (x1.sub s2) p1⟩
            show (match g == g with | true => some _ | false => _) = some _
            rw [beq_self_eq_true]
  · exact h1.elim
end VL

namespace VL
open PySem PySem.Spec L2

/-! ### a call of a def that a table gives: [f, g, h][i](e, ..) -/
def TabOk (X : Cx) (k n : Nat) (io : List Nat) (tab : List (Addr × VSp)) : Prop := ∀ q ∈ tab, ∃ (fd : FuncData) (ps : List Str), FnV X.prog X.w X.K X.mg X.base k q.1 fd ps io q.2 ∧ ps.length = n ∧ PySem.W.keepIn X.K (.ref q.1) = true ∧ Binds X.K fd ps []
def vCallX (tab : List (Addr × VSp)) (sl : List (Option Nat)) (rf : VE) (ra : VA) : VE := fun ρ φ ε => rf ρ (fun o ρ1 => match o with
  | .sh (.sc (.adr f)) => ∃ q ∈ tab, q.1 = f ∧ vCall sl [] q.2 ra ρ1 φ ε
  | _ => False) ε
theorem ev_callX {X : Cx} {W : WX} {pf p : Bool} {k n : Nat} {io : List Nat} {tab : List (Addr × VSp)} {sl : List (Option Nat)} {fe e : Expr} {es : List Expr} {rf : VE} {ra : VA} {pos : Pos} (T : TabOk X k n io tab) (hr : Room k X.A) (g : X.A.guards = some []) (tk : Takes X W) (hfe : Ev X W pf fe rf)
    (ha : Xv X W p sl (e :: es) ra) (hs : slOk sl = true := by rfl) (hio : io = posOf sl := by rfl) (hn : n = sl.length + 0 := by rfl)
    (hev : eval (.Call fe (e :: es) [] pos) X.env = (do callWith pos (← eval fe X.env) [] (PySem.backTo pos (starEach (e :: es) X.env)) (backToKw pos (keywordEach [] X.env))) := by rfl)
    (he : starEach (e :: es) X.env = (false, eval e X.env) :: starEach es X.env := by rfl) (hpl : (PySem.backTo pos (starEach es X.env)).any (·.1) = false := by rfl) {q_ : Bool} (hq_ : (pf && (p && (lentOf sl).isEmpty)) = q_ := by rfl) :
    Ev X W q_ (.Call fe (e :: es) [] pos) (vCallX tab sl rf ra) := by
  subst hq_
  obtain ⟨tf, htf, sf⟩ := hfe.ex
  obtain ⟨t, ht, st⟩ := ha.ex
  refine ⟨fun σ H Q => tf σ H fun x H1 => ∃ q ∈ tab, x = .ref q.1 ∧ tCallSD (toSp X.K n io q.2) [] (WE W) t σ H1 Q, ⟨fun pins s σ H Q I h => ?_⟩, ?_⟩
  · refine PyProof.Rows.Call_ (thn (htf.run pins s σ H _ I h) fun u s1 hh => ?_) hev
    obtain ⟨x, H1, I1, rx, q, hq, ex, h1⟩ := hh
    subst ex
    have eu : u = Value.ref q.1 := rx
    subst eu
    obtain ⟨fd, ps, F, hl, hk, hb⟩ := T q hq
    subst hl
    exact PySem.W.callWith_K (h₀ := X.base) I1.ok.mod.kin hk (thn (ht.run pos pins s1 σ H1 _ I1 h1) fun us s2 hv => by
      obtain ⟨vs, H2, I2, r, q2⟩ := hv
      exact ⟨I2.kIn, run_fnG F hr g hb .nil tk I2 r q2⟩) he hpl
  · intro S AA H σ ρ φ ε Q r l hQ h
    refine sf S AA H σ ρ _ ε _ r l (fun v H1 o ρ1 A1 h1 r1 x1 p1 => ?_) h
    split at h1
    next f =>
      obtain ⟨q, hq, ef, h1⟩ := h1
      have rd := r1.read1 (d := .sc (.adr f)) rfl
      obtain ⟨A2, r2, s2⟩ := r1.drop1
      refine ⟨q, hq, by rw [rd.scv, ef]; rfl, ?_⟩
      have X2 := x1.sub s2
      exact snd_call (dv := []) (sp := q.2) st hs hio hn S A2 H1 σ ρ1 φ ε Q r2 (l.step X2) (fun v H' o ρ' AA' a b c d => hQ v H' o ρ' AA' a b (X2.trans c) fun e => by
        obtain ⟨e1, e2⟩ := and2 e
        exact ⟨(d e2).1.trans (p1 e1).1, Same.trans (p1 e1).2 (d e2).2⟩) h1
    · exact h1.elim
end VL

/-! the end: a law's promise over values, at the heap behind the top -/
namespace VL
open PySem PySem.Spec L2
open PyProof.Rows (AllBare IntsAre)

/-- the script as data -/
def scriptD (ns : List Int) : D := .nd .fzl (ns.map fun n => .sc (.int n))
theorem rp_ints {K : PySem.W.Frag} {H : Hp} {B : Addr → Prop} : ∀ ns : List Int, RpSs K H B (ns.map V.int) (ns.map fun n => D.sc (.int n))
  | [] => .nil
  | n :: ns => .cons (.sc (.int n)) (rp_ints ns)
/-- what a law's def promises: True for each script of at most m numbers -/
def spLawV (m : Nat) : VSp := fun os φ _ => ∃ ns : List Int, ns.length ≤ m ∧ os = [.sh (scriptD ns)] ∧ φ (.sh (.sc (.bl true))) []
/-- the walk at one heap: what is tracked is the script at most -/
theorem end_at {P : Program} {w : World} {K : PySem.W.Frag} {mg mb : Str → Option Value} {k m : Nat} {fa a : Addr} {fd : FuncData} {x : Str} {t : Shared} {ns : List Int} {H : Hp} (KX : K.In t.heap) (gns : t.heap.Ns mainGlobals mg) (bns : t.heap.Ns builtinsNs mb) (bbn : ∀ x : Str, x ≠ "__name__" → mb x = bootBuiltins x) (lim : t.heap.NoLimit) (gens : t.gens = #[])
    (room : Room k callerA) (F : ∀ base : Heap, K.In base → base.Ns mainGlobals mg → FnV P w K mg base k fa fd [x] [] (spLawV m)) (bind : ∀ (s : Shared) (u : Value), BindsTo s fd ⟨[u], []⟩ [(x, u)]) (hm : ns.length ≤ m)
    (only : Only H) (sq : ShAt K H (fun _ => False) .fzl a (ns.map V.int)) (hok : HOk P w H t.heap) (lst : ∀ b, H b ≠ none → b = a ∧ K.lookup b = none ∧ ∀ o, t.heap.get? b = some o → (∀ es ep, o.data ≠ .dict es ep)) :
    codeAny (model P w) callerA (.call (.ref fa) ⟨[.ref a], []⟩) (fun r s' => r = .ok (.ret (.bool true)) ∧ OldK t.heap s'.heap ∧ s'.os = t.os ∧ AllBare s'.gens) t := by
  have hid : ∀ {b : Addr} {o : Obj}, t.heap.get? b = some o → H b = none → (hidT t.heap H).get? b = some o := fun e n => hidT_get e n
  have free : ∀ {b : Addr} {o : Obj} {es : Array DictEntry} {ep : Nat}, t.heap.get? b = some o → o.data = .dict es ep → H b = none := by
    intro b o es ep e d
    cases q : H b with
    | none => rfl
    | some u => exact absurd d ((lst b (by rw [q]; intro z; cases z)).2.2 o e es ep)
  have nsh : ∀ {b : Addr} {f : Str → Option Value}, t.heap.Ns b f → (hidT t.heap H).Ns b f := by
    intro b f h
    obtain ⟨o, es, ep, e, d, r⟩ := h
    exact ⟨o, es, ep, hid e (free e d), d, r⟩
  have kin : K.In (hidT t.heap H) := by
    intro b o e
    refine hid (KX b o e) ?_
    cases q : H b with
    | none => rfl
    | some u =>
      have := (lst b (by rw [q]; intro z; cases z)).2.1
      rw [e] at this
      cases this
  have mod : Mod K mg (hidT t.heap H) := by
    obtain ⟨mc, l1, l2⟩ := lim
    exact ⟨kin, nsh gns, ⟨mb, nsh bns, bbn⟩, mc, nsh l1, l2⟩
  have env0 : Env0 P w K mg (hidT t.heap H) callerA [] t H := by
    refine ⟨rfl, mod, fun b o e => of_hidT e, Nat.le_of_eq (hidT_size _ _), trivial, fun b hb => ?_, hok, .of_eq gens⟩
    exact absurd (show b ∈ ([] : List Addr) from hb) (by simp)
  have rel : RelA K (fun _ => False) [] H (([.ref a] : List V).map some) [.sh (scriptD ns)] := by
    refine ⟨RpOs.cons (A := []) (.sh (.nd (ShAt.keep (Keep.here fun b z => ?_) sq) (rp_ints ns))) .nil, List.nodup_nil, fun b hb => (by cases hb), fun b (hb : False) => hb.elim⟩
    rcases z with z | z
    · exact z
    · cases z
  have prom : toSp K 1 [] (spLawV m) [.ref a] H (fun v _ => v = .bl true) (fun _ _ _ => False) := by
    refine ⟨fun _ => False, [], [.sh (scriptD ns)], fun o _ => o = .sh (.sc (.bl true)), fun _ _ => False, rfl, rel, ⟨ns, hm, rfl, rfl⟩, fun v H' o outs AA' e r _ => ?_, fun _ _ _ _ _ _ e _ _ _ => e⟩
    subst e
    exact (r.read1 (d := .sc (.bl true)) rfl).scv
  refine codeAny_mono ((F _ kin (nsh gns)).run callerA [] t H ⟨[.ref a], []⟩ [.ref a] [.ref a] _ _ room rfl env0 (bind t (.ref a)) (.cons rfl .nil) prom) fun r s' h => ?_
  cases r with
  | error e => exact noPass h
  | ok fl =>
    cases fl with
    | ret u =>
      obtain ⟨v, H', os, bare, un, hok2, r2, q⟩ := h
      have qv : v = .bl true := q
      subst qv
      have eu : u = Value.bool true := r2
      subst eu
      refine ⟨rfl, OldK.of_keep fun b o e => ?_, os, bare⟩
      cases q : H b with
      | none => exact un.keep b o e q (fun z => absurd (show b ∈ ([] : List Addr) from z) (by simp)) (by simp)
      | some u =>
        rcases only b with z | ⟨ob, xs, z⟩
        · rw [q] at z
          cases z
        · obtain ⟨e1, _⟩ := hok b _ z
          obtain ⟨e2, _⟩ := hok2 b _ (un.frzs b ob _ z)
          rw [e] at e1
          cases e1
          exact e2
    | next => exact False.elim h
    | brk => exact False.elim h
    | cont => exact False.elim h
where
  noPass {P : Program} {w : World} {H : Hp} {t : Shared} {e : Value} {s' : Shared} {G : Prop} (h : L2.CX P w [] H t (fun _ _ _ => False) e s') : G := by
    obtain ⟨_, _, _, _, _, _, _, _, _, _, _, _, z⟩ := h
    exact z.elim
/-- THE END: over the head's heap -/
theorem law_endV {P : Program} {w : World} {K : PySem.W.Frag} {mg mb : Str → Option Value} {k m : Nat} {fa a : Addr} {fd : FuncData} {x : Str} {t : Shared} {vs : List Value} {ns : List Int} (KX : K.In t.heap) (gns : t.heap.Ns mainGlobals mg) (bns : t.heap.Ns builtinsNs mb)
    (bbn : ∀ x : Str, x ≠ "__name__" → mb x = bootBuiltins x) (lim : t.heap.NoLimit) (gens : t.gens = #[]) (ho : t.heap.get? a = some { cls := .type "list", data := .seq vs.toArray }) (hi : IntsAre vs ns) (hl : ns.length ≤ sizeLine) (hm : ns.length ≤ m) (room : Room k callerA)
    (F : ∀ base : Heap, K.In base → base.Ns mainGlobals mg → FnV P w K mg base k fa fd [x] [] (spLawV m)) (bind : ∀ (s : Shared) (u : Value), BindsTo s fd ⟨[u], []⟩ [(x, u)]) :
    codeAny (model P w) callerA (.call (.ref fa) ⟨[.ref a], []⟩) (fun r s' => r = .ok (.ret (.bool true)) ∧ OldK t.heap s'.heap ∧ s'.os = t.os ∧ AllBare s'.gens) t := by
  have rv : Vals (ns.map V.int) vs := L2.vals_ints hi
  have len : vs.length = ns.length := hi.length
  cases hk : K.lookup a with
  | some o =>
    have e := KX a o hk
    rw [ho] at e
    cases e
    have w1 : ShAt K (fun _ => none) (fun _ => False) .fzl a (ns.map V.int) := .inr ⟨_, vs.toArray, _, hk, rfl, rfl, rfl, by rw [List.size_toArray, len]; exact hl, by simpa using rv⟩
    refine end_at (H := fun _ => none) KX gns bns bbn lim gens room F bind hm (fun _ => .inl rfl) w1 ?_ fun b z => absurd rfl z
    intro b u z
    have z2 : (none : Option HO) = some u := z
    cases z2
  | none =>
    let o0 : Obj := { cls := .type "list", data := .seq vs.toArray }
    let H0 : Hp := fun b => if b = a then some (.frz o0 (.lst (ns.map V.int))) else none
    have at_a : H0 a = some (.frz o0 (.lst (ns.map V.int))) := if_pos rfl
    have off : ∀ {b : Addr}, b ≠ a → H0 b = none := fun h => if_neg h
    have w1 : ShAt K H0 (fun _ => False) .fzl a (ns.map V.int) := .inl ⟨fun z => z, _, at_a, .inl ⟨o0, rfl⟩⟩
    refine end_at (H := H0) KX gns bns bbn lim gens room F bind hm (fun b => ?_) w1 (fun b u z => ?_) fun b z => ?_
    · by_cases hb : b = a
      · rw [hb]
        exact .inr ⟨_, _, at_a⟩
      · exact .inl (off hb)
    · by_cases hb : b = a
      · subst hb
        rw [at_a] at z
        cases z
        exact ⟨ho, by rw [List.length_map]; exact hl, vs, _, rv, ho⟩
      · rw [off hb] at z
        cases z
    · by_cases hb : b = a
      · subst hb
        refine ⟨rfl, hk, fun o e es ep d => ?_⟩
        rw [ho] at e
        cases e
        cases d
      · exact absurd (off hb) z
/-- .. as the head's goal -/
theorem walk_ofV {l : PySem.W.OpenLaw} {n k : Nat} {q : Program} {loose : List Str} {XP : (Str → Option Value) → Heap → Prop} {YP : World → Heap → Prop} {d : DefRec} {x : Str} (hn : l.most = some n) (hn2 : n ≤ sizeLine) (hdf : d.params.defaults = []) (room : Room k callerA)
    (F : ∀ (w : World) (mg : Str → Option Value) (fa : Addr) (h : Heap), YP w h → h.Ns mainGlobals mg → mg d.name = some (.ref fa) → ∃ (K : PySem.W.Frag) (fd : FuncData), K.In h ∧ (∀ (s : Shared) (u : Value), BindsTo s fd ⟨[u], []⟩ [(x, u)]) ∧
      ∀ base : Heap, K.In base → base.Ns mainGlobals mg → FnV l.prog w K mg base k fa fd [x] [] (spLawV n)) : PySem.W.WalkO q loose XP YP l.row.toRowW d [] (fun f vs => PySem.call f vs) := by
  refine Att.attach_call hn hdf fun w s0 s1 mg mb fa o pm cd doc a vs ns G Y ho hd hcd hmg hobj hints hlen hg => ?_
  obtain ⟨K, fd, KX, bind, prom⟩ := F w mg fa _ Y G.T.g hmg
  exact law_endV KX G.T.g G.T.b G.T.builtins G.T.nolimit hg hobj hints (Nat.le_trans hlen hn2) hlen room prom bind
end VL

namespace VL
open PySem PySem.Spec L2

/-! ### [c in Z for c in x] -/
theorem chars_in {Z x : Str} {i : Nat} {ρ : Env} {φ : List D → Env → Prop} {ε : XP} {neg : Bool} (hi : i < ρ.length) (hk : (wipeE ρ [i]).map kill = wipeE ρ [i]) (hz : x.length ≤ sizeLine)
    (h : ∀ ρ2, wipeE ρ2 [i] = wipeE ρ [i] → φ (x.cps.toList.map fun c => D.sc (.bl (nb neg (decide (c ∈ Z.cps.toList))))) ρ2) :
    vLcL (vgName i) vYes (vBin true (gn2 (gInW neg)) (vName i) (vC (.str Z))) [i] (charsD x) [] ρ φ ε := by
  have hl : (charsD x).length = x.length := by
    unfold charsD
    rw [List.length_map]
    rfl
  refine lc_map (W := wipeE ρ [i]) (f := fun d => match d with
    | .sc (.str y) => .sc (.bl (nb neg (strIn y Z)))
    | d => d) (charsD x) rfl (by rw [hl, List.length_nil]; omega) (fun d hd φ' hφ => ?_) fun ρ2 hw => ?_
  · obtain ⟨c, _, rfl⟩ := List.mem_map.mp hd
    have hi2 : i < (wipeE ρ [i]).length := by rw [wipeE_len]; exact hi
    have e1 : envAt ((wipeE ρ [i]).set i (.sh (.sc (.str ⟨#[c]⟩)))) i = .sh (.sc (.str ⟨#[c]⟩)) := by
      unfold envAt
      rw [List.getElem?_set_self hi2]
      rfl
    show vBin true (gn2 (gInW neg)) (vName i) (vC (.str Z)) ((wipeE ρ [i]).set i (.sh (.sc (.str ⟨#[c]⟩)))) φ' ε
    unfold vBin vName
    simp only [e1]
    show φ' (.sh (.sc (.bl (nb neg (strIn ⟨#[c]⟩ Z))))) _
    refine hφ _ _ rfl ?_
    rw [List.map_set, hk]
    show ((wipeE ρ [i]).set i _).set i .top = ρ.set i .top
    rw [List.set_set]
    show (ρ.set i .top).set i .top = _
    rw [List.set_set]
  · have e : (charsD x).map (fun d => match d with
        | .sc (.str y) => D.sc (.bl (nb neg (strIn y Z)))
        | d => d) = x.cps.toList.map fun c => D.sc (.bl (nb neg (decide (c ∈ Z.cps.toList)))) := by
      unfold charsD
      rw [List.map_map]
      rfl
    rw [List.nil_append, e]
    exact h ρ2 hw
/-- all of them -/
theorem gBls_map {α : Type} {xs : List α} {f : α → Bool} {F : List Bool → Bool} {k : O → Prop} (h : k (.sh (.sc (.bl (F (xs.map f)))))) : gBls F (.ow .lst (xs.map fun x => D.sc (.bl (f x)))) k := by
  show match blsOf (xs.map fun x => D.sc (.bl (f x))) with
    | some bs => k (.sh (.sc (.bl (F bs))))
    | none => False
  rw [blsOf_map]
  exact h
end VL

namespace VL
open PySem PySem.Spec L2

/-! ### class facts as Bools (for the head) -/
/-- an exception class over ValueError with a dict -/
def oexB (K : PySem.W.Frag) (C : Addr) : Bool := (match K.lookup C with
  | some ⟨.type t, _, .cls cd, sl⟩ => (match cd.mro, sl.toList with
    | .ref C' :: bm, [_, _, _, _, some (.builtin n), _] => decide (t = "type") && (decide (C' = C) && (decide (n = "ValueError.__new__") && (!cd.hasDel && (cd.hasDict && PySem.HandSPX.refsVE bm))))
    | _, _ => false)
  | _ => false) && (decide (PySem.W.findIn K (.ref C) "__setattr__" = some (some (.builtin "object.__setattr__"))) && (decide (PySem.W.subIn K (.ref C) (.type "BaseException") = some true) && (decide (PySem.W.typeIn K (.ref C) = some (.type "type")) && PySem.W.keepIn K (.ref C))))
theorem oexB_ok {K : PySem.W.Frag} {C : Addr} (h : oexB K C = true) : OexC K C := by
  obtain ⟨h0, h⟩ := and2 h
  obtain ⟨h1, h⟩ := and2 h
  obtain ⟨h2, h⟩ := and2 h
  obtain ⟨h3, h4⟩ := and2 h
  refine ⟨?_, of_decide_eq_true h1, of_decide_eq_true h2, of_decide_eq_true h3, h4⟩
  split at h0
  next t dd cd sl ho =>
    split at h0
    next C' bm k0 k1 k2 k3 n k5 hm hs =>
      obtain ⟨e1, h0⟩ := and2 h0
      obtain ⟨e2, h0⟩ := and2 h0
      obtain ⟨e3, h0⟩ := and2 h0
      obtain ⟨e4, h0⟩ := and2 h0
      obtain ⟨e5, e6⟩ := and2 h0
      have q1 : t = "type" := of_decide_eq_true e1
      have q2 : C' = C := of_decide_eq_true e2
      have q3 : n = "ValueError.__new__" := of_decide_eq_true e3
      have q4 : cd.hasDel = false := by simpa using e4
      obtain ⟨nm, bs, mro, ns, qn, hd, sn, sub, ab, col, del⟩ := cd
      dsimp only at hm q4 e5
      subst hm q4 e5 q1 q2 q3
      obtain ⟨l⟩ := sl
      have q5 : l = [k0, k1, k2, k3, some (.builtin "ValueError.__new__"), k5] := hs
      subst q5
      exact ⟨nm, qn, ns, bs, bm, sn, sub, ab, col, dd, k0, k1, k2, k3, k5, ho, e6⟩
    · cases h0
  · cases h0
def binB (K : PySem.W.Frag) (C0 : Addr) : Bool := decide (PySem.W.typeIn K (.ref C0) = some (.type "type")) && (PySem.W.readsIn K C0 (.type "type") && (decide (PySem.W.specialIn K (.ref C0) "__getattribute__" = some (some (.builtin "type.__getattribute__"))) && (match PySem.W.findCls K (.ref C0) (.type "type") "__init__" with
  | some (.val (.builtin n)) => decide (n = "ValueError.__init__")
  | _ => false)))
theorem binB_ok {K : PySem.W.Frag} {C0 : Addr} (h : binB K C0 = true) : BInit K C0 := by
  obtain ⟨h1, h⟩ := and2 h
  obtain ⟨h2, h⟩ := and2 h
  obtain ⟨h3, h4⟩ := and2 h
  refine ⟨of_decide_eq_true h1, h2, ?_, of_decide_eq_true h3⟩
  split at h4
  next n e =>
    have q : n = "ValueError.__init__" := of_decide_eq_true h4
    rw [e, q]
  · cases h4

/-! ### the Hook: facts, defs, a Bool more; the statics belong to the fragment -/
open He in
abbrev AlV : Type := He.AlD × Bool
def fragV (n : Nat) (g : Addr → Option Obj) : PySem.W.Frag := He.frG g (cStatics :: He.asD g n)
def obsV (n : Nat) (fa : List He.Fa) (fn : List He.DefD) (ex : PySem.W.Frag → Bool) (g : Addr → Option Obj) : AlV := (He.obsD fa fn (fragV n g), ex (fragV n g))
def SaysV (fa : List He.Fa) (fn : List He.DefD) (ex : PySem.W.Frag → Bool) (K : PySem.W.Frag) : Prop := He.SaysD fa fn K ∧ ex K = true
def hookV (n : Nat) (fa : List He.Fa) (fn : List He.DefD) (ex : PySem.W.Frag → Bool) : PySem.W.Hook where
  α := AlV
  obs := fun s => obsV n fa fn ex s.heap.get?
  val := fun _ => (He.valD fn, true)
  says := fun _ h => ∃ K : PySem.W.Frag, K.In h ∧ SaysV fa fn ex K
  of := fun _ _ e => ⟨_, He.frG_in, congrArg (fun z : AlV => z.1) e, congrArg (fun z : AlV => z.2) e⟩
  keeps := fun _ _ _ h k => by
    obtain ⟨K, hK, c⟩ := h
    exact ⟨K, PySem.W.Frag.In.keeps hK k, c⟩
theorem obsV_eq {n : Nat} {fa : List He.Fa} {fn : List He.DefD} {ex : PySem.W.Frag → Bool} {g : Addr → Option Obj} {s : Shared} (h : ∀ a, g a = s.heap.get? a) : obsV n fa fn ex g = (hookV n fa fn ex).obs s := by
  have e : g = s.heap.get? := funext h
  subst e
  rfl
end VL

/-! the readings, run by simp: outermost first -/
namespace VL
open PySem PySem.Spec L2

section
variable {ρ : Env} {φ : O → Env → Prop} {φT : Bool → Env → Prop} {φA : List O → Env → Prop} {φO : Option Int → Env → Prop} {φI : List D → Env → Prop} {ε : XP} {k : VK} {kg : Env → Prop} {kO : O → Prop}
variable {ra rb rc : VE} {ta tb : VT} {aa : VA} {sa sb : VS} {g : VG} {gs : VGs} {gN : GN} {g1 : O → (O → Prop) → Prop} {g2 : O → O → (O → Prop) → Prop} {i j : Nat} {s : Sc} {b : Bool} {o p : O} {os : List O} {d : D} {ds : List D}
@[simp ↓] theorem x_name : vName i ρ φ ε = rdO (envAt ρ i) fun o => φ o ρ := (rfl)
@[simp ↓] theorem x_c : vC s ρ φ ε = φ (.sh (.sc s)) ρ := (rfl)
@[simp ↓] theorem x_nil : vNil ρ φA ε = φA [] ρ := (rfl)
@[simp ↓] theorem x_cons : vCons b ra aa ρ φA ε = ra ρ (fun oa ρ1 => aa ρ1 (fun os ρ2 => φA (kl b oa :: os) ρ2) ε) ε := (rfl)
@[simp ↓] theorem x_bin : vBin b gN ra rb ρ φ ε = ra ρ (fun oa ρ1 => rb ρ1 (fun ob ρ2 => gN [kl b oa, ob] fun o => φ o ρ2) ε) ε := (rfl)
@[simp ↓] theorem x_binN : vBinN gN i rb ρ φ ε = ((rdO (envAt ρ i) fun _ => True) ∧ rb ρ (fun ob ρ1 => rdO (envAt ρ1 i) fun oa => gN [oa, ob] fun o => φ o ρ1) ε) := (rfl)
@[simp ↓] theorem x_un : vUn gN ra ρ φ ε = ra ρ (fun oa ρ1 => gN [oa] fun o => φ o ρ1) ε := (rfl)
@[simp ↓] theorem x_arg : vArg gN aa ρ φ ε = aa ρ (fun os ρ1 => gN os fun o => φ o ρ1) ε := (rfl)
@[simp ↓] theorem x_gn1 : gn1 g1 [o] kO = g1 o kO := (rfl)
@[simp ↓] theorem x_gn2 : gn2 g2 [o, p] kO = g2 o p kO := (rfl)
def onBl (o : O) (k : Bool → Prop) : Prop := match o with
  | .sh (.sc (.bl b)) => k b
  | _ => False
@[simp ↓] theorem x_onBl {k : Bool → Prop} : onBl (.sh (.sc (.bl b))) k = k b := (rfl)
@[simp ↓] theorem x_tst : vTst ra ρ φT ε = ra ρ (fun o ρ' => onBl o fun b => φT b ρ') ε := (rfl)
@[simp ↓] theorem x_and : vAnd ta tb ρ φT ε = ta ρ (fun b ρ1 => if b = true then tb ρ1 φT ε else φT false ρ1) ε := (rfl)
@[simp ↓] theorem x_or : vOr ta tb ρ φT ε = ta ρ (fun b ρ1 => if b = true then φT true ρ1 else tb ρ1 φT ε) ε := (rfl)
@[simp ↓] theorem x_not : vNot ta ρ φT ε = ta ρ (fun b ρ1 => φT (!b) ρ1) ε := (rfl)
@[simp ↓] theorem x_if : vIf ta ra rb ρ φ ε = ta ρ (fun b ρ1 => if b = true then ra ρ1 φ ε else rb ρ1 φ ε) ε := (rfl)
@[simp ↓] theorem x_andV : vAndV ra rb ρ φ ε = ra ρ (fun o ρ' => onBl o fun b => if b = true then rb ρ' φ ε else φ (.sh (.sc (.bl false))) ρ') ε := (rfl)
@[simp ↓] theorem x_orV : vOrV ra rb ρ φ ε = ra ρ (fun o ρ' => onBl o fun b => if b = true then φ (.sh (.sc (.bl true))) ρ' else rb ρ' φ ε) ε := (rfl)
@[simp ↓] theorem x_notV : vNotV ra ρ φ ε = ra ρ (fun o ρ' => onBl o fun b => φ (.sh (.sc (.bl (!b)))) ρ') ε := (rfl)
@[simp ↓] theorem x_nx : vNx ρ k ε = k.nx ρ := (rfl)
@[simp ↓] theorem x_seq : vSeq sa sb ρ k ε = sa ρ { nx := fun ρ1 => sb ρ1 k ε, rt := k.rt, bk := k.bk, ct := k.ct } ε := (rfl)
@[simp ↓] theorem x_bk : vBk ρ k ε = k.bk ρ := (rfl)
@[simp ↓] theorem x_ct : vCt ρ k ε = k.ct ρ := (rfl)
@[simp ↓] theorem x_drop : vDrop ra ρ k ε = ra ρ (fun _ ρ1 => k.nx ρ1) ε := (rfl)
@[simp ↓] theorem x_ret : vRet ra ρ k ε = ra ρ (fun o ρ1 => k.rt o ρ1) ε := (rfl)
@[simp ↓] theorem x_retN : vRetN ρ k ε = k.rt (.sh (.sc .non)) ρ := (rfl)
@[simp ↓] theorem x_ifS : vIfS ta sa sb ρ k ε = ta ρ (fun b ρ1 => if b = true then sa ρ1 k ε else sb ρ1 k ε) ε := (rfl)
@[simp ↓] theorem x_set : vSet i ra ρ k ε = ra ρ (fun o ρ1 => k.nx (ρ1.set i o)) ε := (rfl)
@[simp ↓] theorem x_gName : vgName i o ρ kg = kg (ρ.set i o) := (rfl)
@[simp ↓] theorem x_gNil : vgNil [] ρ kg = kg ρ := by simp [vgNil]
@[simp ↓] theorem x_gCons : vgCons g gs (o :: os) ρ kg = g o ρ fun ρ1 => gs os ρ1 kg := (rfl)
@[simp ↓] theorem x_gTupS : vgTup i gs (.sh (.nd .tup ds)) ρ kg = (ds.length = i ∧ gs (ds.map .sh) ρ kg) := by simp [vgTup, unTup]
@[simp ↓] theorem x_gTupD : vgTup i gs (.dp .tup os) ρ kg = (os.length = i ∧ gs os ρ kg) := by simp [vgTup, unTup]
@[simp ↓] theorem x_seqI {l : Lab} : vSeqI l ra ρ φI ε = ra ρ (fun o ρ' => frD o fun d => match seqOf l d with
  | some ds => φI ds ρ'
  | none => False) ε := (rfl)
@[simp ↓] theorem x_strI : vStrI ra ρ φI ε = ra ρ (fun o ρ' => match o with
  | .sh (.sc (.str x)) => φI (charsD x) ρ'
  | _ => False) ε := (rfl)
@[simp ↓] theorem x_for {ri : VI} : vFor ri g sa ρ k ε = ri ρ (fun ds ρ1 => vForL g sa ds ρ1 k ε) ε := (rfl)
@[simp ↓] theorem x_lc {ri : VI} {vs : List Nat} : vLc ri g ta ra vs ρ φ ε = ri ρ (fun ds ρ1 => vLcL g ta ra vs ds [] ρ1 (fun acc ρ2 => φ (.ow .lst acc) (wipeE ρ2 vs)) fun _ _ => False) ε := (rfl)
@[simp ↓] theorem x_yes : vYes ρ φT ε = φT true ρ := (rfl)
@[simp ↓] theorem x_noPart : vNoPart ρ φO ε = φO none ρ := (rfl)
def onInt (o : O) (k : Int → Prop) : Prop := match o with
  | .sh (.sc (.int b)) => k b
  | _ => False
@[simp ↓] theorem x_onInt {n : Int} {k : Int → Prop} : onInt (.sh (.sc (.int n))) k = k n := (rfl)
@[simp ↓] theorem x_part : vPart ra ρ φO ε = ra ρ (fun o ρ' => onInt o fun i => φO (some i) ρ') ε := (rfl)
@[simp ↓] theorem x_sl {ol oh : VO} : vSl b ra ol oh ρ φ ε = ra ρ (fun o ρ1 => ol ρ1 (fun lo ρ2 => oh ρ2 (fun hi ρ3 => gSl (kl b o) lo hi fun o' => φ o' ρ3) ε) ε) ε := (rfl)
@[simp ↓] theorem x_tup : vTup aa ρ φ ε = aa ρ (fun os ρ1 => gNew mkTup os fun o => φ o ρ1) ε := (rfl)
@[simp ↓] theorem x_lst : vLst aa ρ φ ε = aa ρ (fun os ρ1 => gNew mkLst os fun o => φ o ρ1) ε := (rfl)
@[simp ↓] theorem x_dnew : vDnew ρ φ ε = φ (.ow (.dk []) []) ρ := (rfl)
@[simp ↓] theorem x_frz : vFrz i ρ φ ε = frD (envAt ρ i) fun d => φ (.sh d) (ρ.set i (.sh d)) := (rfl)
def mvO (o : O) (k : O → Prop) : Prop := match o with
  | .top => False
  | .pin _ => False
  | o => k o
@[simp ↓] theorem x_mvS {kO : O → Prop} : mvO (.sh d) kO = kO (.sh d) := (rfl)
@[simp ↓] theorem x_mvO {kO : O → Prop} {l : Lab} : mvO (.ow l ds) kO = kO (.ow l ds) := (rfl)
@[simp ↓] theorem x_mvD {kO : O → Prop} {l : Lab} : mvO (.dp l os) kO = kO (.dp l os) := (rfl)
@[simp ↓] theorem x_mvB {kO : O → Prop} : mvO (.bor o) kO = kO (.bor o) := (rfl)
@[simp ↓] theorem x_move : vMove i ρ φ ε = mvO (envAt ρ i) fun o => φ o (ρ.set i .top) := by
  unfold vMove mvO
  cases envAt ρ i <;> rfl
def onSome {α : Type} (o : Option α) (k : α → Prop) : Prop := match o with
  | some x => k x
  | none => False
@[simp ↓] theorem x_onSome {α : Type} {x : α} {k : α → Prop} : onSome (some x) k = k x := (rfl)
@[simp ↓] theorem x_call {sl : List (Option Nat)} {dv : List D} {sp : VSp} : vCall sl dv sp aa ρ φ ε = aa ρ (fun os ρ1 => onSome (argOk sl (fill sl os ρ1)) fun us =>
  sp (us ++ dv.map .sh) (fun o outs => φ o (backTo (lentOf sl) outs (killAll sl (emptied sl ρ1)))) (fun e outs => ε e (backTo (lentOf sl) outs (killAll sl (emptied sl ρ1))))) ε := by
  unfold vCall
  congr 1
  funext os ρ1
  unfold onSome
  cases argOk sl (fill sl os ρ1) <;> rfl
@[simp ↓] theorem x_lent : vLent i aa ρ φA ε = ((match envAt ρ i with
  | .ow _ _ => True
  | .dp _ _ => True
  | _ => False) ∧ aa ρ (fun os ρ2 => φA (.top :: os) ρ2) ε) := (rfl)
@[simp ↓] theorem x_mut {T : String} {m : VM} : vMut i T m aa ρ φ ε = (ownT T (envAt ρ i) ∧ aa ρ (fun os ρ1 => m (envAt ρ1 i) os fun res o' => φ res (putE ρ1 i o')) ε) := (rfl)
@[simp ↓] theorem x_bm {T : String} : vBM T b gN ra aa ρ φ ε = ra ρ (fun o ρ1 => tyO T o ∧ aa ρ1 (fun os ρ2 => gN (kl b o :: os) fun u => φ u ρ2) ε) ε := (rfl)
def dGetD (od oe of : O) (k : O → Prop) : Prop := dGet od oe fun o => match o with
  | some q => outO (some q) k
  | none => k of
@[simp ↓] theorem x_dget2 : vDget2 ra rb rc ρ φ ε = ra ρ (fun od ρ1 => isDk0 od ∧ rb ρ1 (fun oe ρ2 => rc ρ2 (fun of ρ3 => dGetD od oe of fun u => φ u ρ3) ε) ε) ε := by
  unfold vDget2 dGetD
  congr 1
@[simp ↓] theorem x_dget1 : vDget1 ra rb ρ φ ε = ra ρ (fun od ρ1 => isDk0 od ∧ rb ρ1 (fun oe ρ2 => dGetD od oe (.sh (.sc .non)) fun u => φ u ρ2) ε) ε := by
  unfold vDget1 dGetD
  congr 1
@[simp ↓] theorem x_asg : vAsg ra g ρ k ε = ra ρ (fun o ρ1 => g o ρ1 k.nx) ε := (rfl)
@[simp ↓] theorem x_gSub : vgSub i b ra o ρ kg = (isOwn (envAt ρ i) ∧ ra ρ (fun oi ρ1 => setI (envAt ρ1 i) oi (kl b o) fun o' => kg (putE ρ1 i o')) (fun _ _ => False)) := (rfl)
@[simp ↓] theorem x_never : vNever ρ k ε = False := (rfl)
@[simp ↓] theorem x_chain {f1 f2 : Int → Int → Bool} : vChainI f1 f2 ra rb rc ρ φT ε = ra ρ (fun oa ρ1 => rb ρ1 (fun ob ρ2 => onInt oa fun i => onInt ob fun j => if f1 i j = true then rc ρ2 (fun oc ρ3 => onInt oc fun k => φT (f2 j k) ρ3) ε else φT false ρ2) ε) ε := by
  unfold vChainI
  congr 1
  funext oa ρ1
  congr 1
  funext ob ρ2
  rcases oa with _ | ((_ | _ | _ | _ | _ | _) | _) | _ | _ | _ | _ <;> first | rfl | skip
  rcases ob with _ | ((_ | _ | _ | _ | _ | _) | _) | _ | _ | _ | _ <;> rfl
@[simp ↓] theorem x_par : vPar i j aa ρ k ε = aa ρ (fun os ρ1 => match os with
  | [a, b] => k.nx ((ρ1.set i a).set j b)
  | _ => False) ε := (rfl)
@[simp ↓] theorem x_par3 {l : Nat} : vPar3 i j l aa ρ k ε = aa ρ (fun os ρ1 => match os with
  | [a, b, c] => k.nx (((ρ1.set i a).set j b).set l c)
  | _ => False) ε := (rfl)
@[simp ↓] theorem x_raise {C : Addr} : vRaise C aa ρ k ε = aa ρ (fun os ρ1 => os.length ≤ sizeLine ∧ ε ⟨C, none⟩ ρ1) ε := (rfl)
@[simp ↓] theorem x_raiseF {C : Addr} {f : Str} : vRaiseF C f aa ρ k ε = aa ρ (fun os ρ1 => match os with
  | [o] => frD o fun d => ε ⟨C, some (f, d)⟩ ρ1
  | _ => False) ε := (rfl)
@[simp ↓] theorem x_enum : vEnum aa ρ φI ε = aa ρ (fun os ρ' => match os with
  | [o] => frD o fun d => match seqOf .lst d with
    | some ds => φI (numbered 0 ds) ρ'
    | none => False
  | _ => False) ε := (rfl)
@[simp ↓] theorem x_rng1 : vRng1 aa ρ φI ε = aa ρ (fun os ρ' => match os with
  | [.sh (.sc (.int j))] => (-(2 ^ 62) ≤ j ∧ j < 2 ^ 62) ∧ φI (intsD 0 1 j.toNat) ρ'
  | _ => False) ε := (rfl)
@[simp ↓] theorem x_rng2 : vRng2 aa ρ φI ε = aa ρ (fun os ρ' => match os with
  | [.sh (.sc (.int i)), .sh (.sc (.int j))] => (-(2 ^ 62) ≤ i ∧ i < 2 ^ 62 ∧ -(2 ^ 62) ≤ j ∧ j < 2 ^ 62) ∧ φI (intsD i 1 (j - i).toNat) ρ'
  | _ => False) ε := (rfl)
@[simp ↓] theorem x_zip {l : Lab} : vZip l aa ρ φI ε = aa ρ (fun os ρ' => match fzL os with
  | some [d, e] => match seqOf l d, seqOf l e with
    | some ds, some es => φI (pairsD ds es) ρ'
    | _, _ => False
  | _ => False) ε := (rfl)
end

section
variable {ρ : Env} {φ : O → Env → Prop} {ε : XP} {k : VK} {ra : VE} {aa : VA} {sa : VS} {C : Addr} {i : Nat} {a a' d d' : Addr} {f g : Str} {x : D}
@[simp ↓] theorem x_try {rs : Addr → Option Addr → VS} : vTryFst C i sa rs ρ k ε = sa ρ k (fun exc ρ1 => exc.C = C ∧ ∀ a d, (∀ p, exc.f = some p → d.isSome = true) → rs a d (ρ1.set i (excO a d C exc.f)) { nx := fun ρ2 => k.nx (ρ2.set i .top), rt := k.rt, bk := fun ρ2 => k.bk (ρ2.set i .top), ct := fun ρ2 => k.ct (ρ2.set i .top) } (fun _ _ => False)) := (rfl)
@[simp ↓] theorem x_xf {d : Option Addr} : vXf a d C f ra ρ φ ε = ra ρ (fun o ρ1 => match o with
  | .sh (.nd (.exc a' d' C' [g]) [x]) => (a' = a ∧ d = some d' ∧ C' = C ∧ g = f) ∧ φ (.sh x) ρ1
  | _ => False) ε := (rfl)
@[simp] theorem x_excO : excO a (some d) C (some (f, x)) = .sh (.nd (.exc a d C [f]) [x]) := (rfl)
def onAdr (o : O) (k : Addr → Prop) : Prop := match o with
  | .sh (.sc (.adr f)) => k f
  | _ => False
@[simp ↓] theorem x_onAdr {k : Addr → Prop} : onAdr (.sh (.sc (.adr a))) k = k a := (rfl)
@[simp ↓] theorem x_callX {tab : List (Addr × VSp)} {sl : List (Option Nat)} : vCallX tab sl ra aa ρ φ ε = ra ρ (fun o ρ1 => onAdr o fun f => ∃ q ∈ tab, q.1 = f ∧ vCall sl [] q.2 aa ρ1 φ ε) ε := by
  unfold vCallX
  congr 1
end
/-! parts -/
section
variable {d : D} {ds : List D} {os : List O} {o a b : O} {l : Lab} {k : O → Prop} {kd : D → Prop} {kk : O → O → Prop}
@[simp] theorem x_rdS : rdO (.sh d) k = k (.sh d) := (rfl)
@[simp] theorem x_rdB : rdO (.bor o) k = k (.bor o) := (rfl)
@[simp] theorem x_rdO : rdO (.ow l ds) k = k (.bor (.ow l ds)) := (rfl)
@[simp] theorem x_rdA {a : Addr} {q : List Nat} : rdO (.al a q) k = k (.al a q) := (rfl)
@[simp] theorem x_rdN {a : Addr} : rdO (.nm a o) k = k (.bor (.nm a o)) := (rfl)
@[simp] theorem x_rdD : rdO (.dp l os) k = k (.bor (.dp l os)) := (rfl)
@[simp] theorem x_klT : kl true o = o := (rfl)
@[simp] theorem x_klS {b : Bool} : kl b (.sh d) = .sh d := by cases b <;> rfl
@[simp] theorem x_klO {b : Bool} : kl b (.ow l ds) = .ow l ds := by cases b <;> rfl
@[simp] theorem x_klD {b : Bool} : kl b (.dp l os) = .dp l os := by cases b <;> rfl
@[simp] theorem x_klB : kl false (.bor o) = .top := (rfl)
@[simp] theorem x_kilS : kill (.sh d) = .sh d := (rfl)
@[simp] theorem x_kilO : kill (.ow l ds) = .ow l ds := (rfl)
@[simp] theorem x_kilD : kill (.dp l os) = .dp l os := (rfl)
@[simp] theorem x_kilT : kill .top = .top := (rfl)
@[simp] theorem x_kilB : kill (.bor o) = .top := (rfl)
@[simp] theorem x_vwS : vw (.sh d) kd = kd d := (rfl)
@[simp] theorem x_vwO : vw (.ow l ds) kd = kd (.nd l ds) := (rfl)
@[simp] theorem x_vwB : vw (.bor o) kd = vw o kd := (rfl)
@[simp] theorem x_viewS : view (.sh d) = some d := (rfl)
@[simp] theorem x_viewO : view (.ow l ds) = some (.nd l ds) := (rfl)
@[simp] theorem x_viewB : view (.bor o) = view o := by
  rw [view]
@[simp] theorem x_fzS : fz (.sh d) = some d := (rfl)
@[simp] theorem x_fzO : fz (.ow l ds) = some (.nd l ds) := (rfl)
@[simp] theorem x_frS : frD (.sh d) kd = kd d := (rfl)
@[simp] theorem x_frO : frD (.ow l ds) kd = kd (.nd l ds) := (rfl)
@[simp] theorem x_partsS : partsOf (.sh (.nd l ds)) = some (l, ds.map .sh) := (rfl)
@[simp] theorem x_partsSc {s : Sc} : partsOf (.sh (.sc s)) = none := (rfl)
@[simp] theorem x_partsO : partsOf (.ow l ds) = some (l, ds.map .sh) := (rfl)
@[simp] theorem x_partsD : partsOf (.dp l os) = some (l, os) := (rfl)
@[simp] theorem x_partsB : partsOf (.bor o) = partsOf o := by rw [partsOf]
@[simp] theorem x_kidsS : kids (.sh (.nd l ds)) = some (l, ds) := (rfl)
@[simp] theorem x_kidsO : kids (.ow l ds) = some (l, ds) := (rfl)
@[simp] theorem x_kidsB : kids (.bor o) = kids o := by rw [kids]
@[simp] theorem x_bwS : bw (.sh d) = some (.sh d) := (rfl)
@[simp] theorem x_outS : outO (some (.sh d)) k = k (.sh d) := (rfl)
@[simp] theorem x_outO : outO (some (.ow l ds)) k = k (.bor (.ow l ds)) := (rfl)
@[simp] theorem x_seqL : seqOf .lst (.nd .lst ds) = some ds := (rfl)
@[simp] theorem x_seqF : seqOf .lst (.nd .fzl ds) = some ds := (rfl)
@[simp] theorem x_seqT : seqOf .tup (.nd .tup ds) = some ds := (rfl)
@[simp] theorem x_lcl_nil {g : VG} {rt : VT} {re : VE} {vs : List Nat} {acc : List D} {ρ : Env} {φ : List D → Env → Prop} {ε : XP} : vLcL g rt re vs [] acc ρ φ ε = φ acc ρ := (rfl)
@[simp] theorem x_forl_nil {g : VG} {rb : VS} {ρ : Env} {k : VK} {ε : XP} : vForL g rb [] ρ k ε = k.nx ρ := (rfl)
@[simp] theorem x_app : mAppend (.ow .lst ds) [a] kk = frD a fun d => ds.length < sizeLine ∧ kk (.sh (.sc .non)) (.ow .lst (ds ++ [d])) := (rfl)
@[simp] theorem x_ownL : ownT "list" (.ow .lst ds) = True := by simp [ownT]
@[simp] theorem x_ownLD : ownT "list" (.dp .lst os) = True := by simp [ownT]
@[simp] theorem x_ownD {ks : List Key} : ownT "dict" (.ow (.dk ks) ds) = True := by simp [ownT]
@[simp] theorem x_isOwnO : isOwn (.ow l ds) = True := by simp [isOwn]
@[simp] theorem x_isOwnD : isOwn (.dp l os) = True := by simp [isOwn]
@[simp] theorem x_isDkO {ks : List Key} : isDk0 (.bor (.ow (.dk ks) ds)) = True := by simp [isDk0]
@[simp] theorem x_isDkS {ks : List Key} : isDk0 (.sh (.nd (.dk ks) ds)) = True := by simp [isDk0]
@[simp] theorem x_tyS {x : Str} : tyO "str" (.sh (.sc (.str x))) = True := by simp [tyO]
@[simp] theorem x_keyI {i : Int} : keyD (.sc (.int i)) = some (.inl i) := (rfl)
@[simp] theorem x_keyS {x : Str} : keyD (.sc (.str x)) = some (.inr x) := (rfl)
@[simp] theorem x_keyStr {x : Str} : keyD (strD x) = some (.inr x) := (rfl)
@[simp] theorem x_argNil : argOk [] [] = some [] := (rfl)
@[simp] theorem x_arg1 {d : D} {sl : List (Option Nat)} {os : List O} : argOk (none :: sl) (.sh d :: os) = (argOk sl os).map (.sh d :: ·) := by cases h : argOk sl os <;> simp [argOk, h]
@[simp] theorem x_arg2 {sl : List (Option Nat)} {os : List O} : argOk (none :: sl) (.ow l ds :: os) = (argOk sl os).map (.sh (.nd l ds) :: ·) := by cases h : argOk sl os <;> simp [argOk, h]
@[simp] theorem x_arg3 {i : Nat} {sl : List (Option Nat)} {os : List O} : argOk (some i :: sl) (.ow l ds :: os) = (argOk sl os).map (.ow l ds :: ·) := by cases h : argOk sl os <;> simp [argOk, h, isBor]
@[simp] theorem x_arg4 {i : Nat} {sl : List (Option Nat)} {os' : List O} : argOk (some i :: sl) (.dp l os :: os') = (argOk sl os').map (.dp l os :: ·) := by cases h : argOk sl os' <;> simp [argOk, h, isBor]
@[simp] theorem x_fillN {ρ : Env} : fill [] os ρ = os := by cases os <;> rfl
@[simp] theorem x_fill0 {sl : List (Option Nat)} {ρ : Env} : fill (none :: sl) (o :: os) ρ = o :: fill sl os ρ := (rfl)
@[simp] theorem x_fill1 {i : Nat} {sl : List (Option Nat)} {ρ : Env} : fill (some i :: sl) (o :: os) ρ = envAt ρ i :: fill sl os ρ := (rfl)
@[simp] theorem x_lentN : lentOf [] = [] := (rfl)
@[simp] theorem x_lent0 {sl : List (Option Nat)} : lentOf (none :: sl) = lentOf sl := (rfl)
@[simp] theorem x_lent1 {i : Nat} {sl : List (Option Nat)} : lentOf (some i :: sl) = i :: lentOf sl := (rfl)
@[simp] theorem x_emptN {ρ : Env} : emptied [] ρ = ρ := (rfl)
@[simp] theorem x_empt0 {sl : List (Option Nat)} {ρ : Env} : emptied (none :: sl) ρ = emptied sl ρ := (rfl)
@[simp] theorem x_empt1 {i : Nat} {sl : List (Option Nat)} {ρ : Env} : emptied (some i :: sl) ρ = (emptied sl ρ).set i .top := (rfl)
@[simp] theorem x_backN {ρ : Env} : backTo [] os ρ = ρ := by simp [backTo]
@[simp] theorem x_back1 {i : Nat} {is : List Nat} {ρ : Env} : backTo (i :: is) (o :: os) ρ = (backTo is os ρ).set i o := (rfl)
theorem x_killAll {sl : List (Option Nat)} {ρ : Env} : killAll sl ρ = match lentOf sl with | [] => ρ | _ :: _ => ρ.map kill := (rfl)
@[simp] theorem x_putE {ρ : Env} {i : Nat} : putE ρ i o = ((ρ.set i .top).map kill).set i o := (rfl)
@[simp] theorem x_envAt {ρ : Env} {i : Nat} : envAt ρ i = (ρ[i]?).getD .top := (rfl)
@[simp] theorem x_setL {d : D} {n : Int} : setI (.ow .lst ds) (.sh (.sc (.int n))) (.sh d) k = onSome (ixN ds.length n) fun m => k (.ow .lst (ds.set m d)) := by
  simp only [setI, frD, fz, vw, view, onSome]
  cases ixN ds.length n <;> rfl
@[simp] theorem x_setD {ks : List Key} {e d : D} : setI (.ow (.dk ks) ds) (.sh e) (.sh d) k = onSome (keyD e) fun y => ks.length < sizeLine ∧ k (putKD ks ds y d) := by
  simp only [setI, frD, fz, vw, view, onSome]
  cases keyD e <;> rfl
end
end VL

/-! plain words: dicts as lists of pairs, data that is compared and shown -/
namespace VL
open PySem PySem.Spec L2

/-! ### dicts with str keys -/
def lk {α : Type} : List (Str × α) → Str → Option α
  | [], _ => none
  | (k, v) :: m, x => if k = x then some v else lk m x
def hasK {α : Type} (m : List (Str × α)) (x : Str) : Bool := m.any fun p => decide (p.1 = x)
def pt {α : Type} (m : List (Str × α)) (x : Str) (v : α) : List (Str × α) := if hasK m x = true then m.map (fun p => if p.1 = x then (p.1, v) else p) else m ++ [(x, v)]
def dKs {α : Type} (m : List (Str × α)) : List Key := m.map fun p => .inr p.1
def dVs {α : Type} (e : α → D) (m : List (Str × α)) : List D := m.map fun p => e p.2
def dO {α : Type} (e : α → D) (m : List (Str × α)) : O := .ow (.dk (dKs m)) (dVs e m)
section
variable {α : Type} {e : α → D}
theorem lk_app (m : List (Str × α)) (x y : Str) (v : α) (h : hasK m x = false) : lk (m ++ [(x, v)]) y = if x = y then some v else lk m y := by
  induction m with
  | nil => rfl
  | cons p m ih =>
    obtain ⟨k, w⟩ := p
    have h' : (decide (k = x) || hasK m x) = false := h
    rw [Bool.or_eq_false_iff] at h'
    have hk : k ≠ x := of_decide_eq_false h'.1
    show (if k = y then some w else lk (m ++ [(x, v)]) y) = if x = y then some v else if k = y then some w else lk m y
    rw [ih h'.2]
    by_cases h2 : k = y
    · rw [if_pos h2, if_neg (fun z => hk (h2.trans z.symm)), if_pos h2]
    · rw [if_neg h2, if_neg h2]
theorem lk_map (m : List (Str × α)) (x y : Str) (v : α) (h : hasK m x = true) : lk (m.map (fun p => if p.1 = x then (p.1, v) else p)) y = if x = y then some v else lk m y := by
  induction m with
  | nil => cases h
  | cons p m ih =>
    obtain ⟨k, w⟩ := p
    by_cases hk : k = x
    · subst hk
      show lk ((if k = k then (k, v) else (k, w)) :: m.map (fun p => if p.1 = k then (p.1, v) else p)) y = if k = y then some v else if k = y then some w else lk m y
      rw [if_pos rfl]
      show (if k = y then some v else lk (m.map (fun p => if p.1 = k then (p.1, v) else p)) y) = _
      by_cases h2 : k = y
      · rw [if_pos h2, if_pos h2]
      · rw [if_neg h2, if_neg h2, if_neg h2]
        cases hh : hasK m k with
        | true => rw [ih hh, if_neg h2]
        | false =>
          have : m.map (fun p => if p.1 = k then (p.1, v) else p) = m := by
            have hn : ∀ p ∈ m, p.1 ≠ k := fun p hp z => by
              have : hasK m k = true := List.any_eq_true.mpr ⟨p, hp, decide_eq_true z⟩
              rw [hh] at this; cases this
            conv => rhs; rw [← List.map_id m]
            exact List.map_congr_left fun p hp => if_neg (hn p hp)
          rw [this]
    · have h' : (decide (k = x) || hasK m x) = true := h
      rw [decide_eq_false hk, Bool.false_or] at h'
      show lk ((if k = x then (k, v) else (k, w)) :: m.map (fun p => if p.1 = x then (p.1, v) else p)) y = if x = y then some v else if k = y then some w else lk m y
      rw [if_neg hk]
      show (if k = y then some w else lk (m.map (fun p => if p.1 = x then (p.1, v) else p)) y) = _
      rw [ih h']
      by_cases h2 : k = y
      · rw [if_pos h2, if_pos h2, if_neg (fun z => hk (h2.trans z.symm))]
      · rw [if_neg h2, if_neg h2]
theorem lk_pt (m : List (Str × α)) (x y : Str) (v : α) : lk (pt m x v) y = if x = y then some v else lk m y := by
  unfold pt
  cases h : hasK m x with
  | true => rw [if_pos rfl, lk_map m x y v h]
  | false => rw [if_neg Bool.false_ne_true, lk_app m x y v h]
theorem getK_dict (m : List (Str × α)) (x : Str) : getK (dKs m) (dVs e m) (.inr x) = (lk m x).map e := by
  induction m with
  | nil => rfl
  | cons p m ih =>
    obtain ⟨k, w⟩ := p
    show (if (Sum.inr k : Key) = Sum.inr x then some (e w) else getK (dKs m) (dVs e m) (.inr x)) = (if k = x then some w else lk m x).map e
    by_cases h : k = x
    · rw [if_pos h, if_pos (congrArg Sum.inr h)]; rfl
    · rw [if_neg h, if_neg (fun z => h (Sum.inr.inj z)), ih]
theorem getK_map {β γ : Type} (f : β → γ) : ∀ (ks : List Key) (ds : List β) (y : Key), getK ks (ds.map f) y = (getK ks ds y).map f
  | [], ds, y => by cases ds <;> rfl
  | k :: ks, [], y => rfl
  | k :: ks, d :: ds, y => by
    show (if k = y then some (f d) else getK ks (ds.map f) y) = (if k = y then some d else getK ks ds y).map f
    by_cases h : k = y
    · rw [if_pos h, if_pos h]; rfl
    · rw [if_neg h, if_neg h, getK_map f ks ds y]
@[simp] theorem getK_dictS (m : List (Str × α)) (x : Str) : getK (dKs m) ((dVs e m).map .sh) (.inr x) = (lk m x).map fun v => O.sh (e v) := by
  rw [getK_map, getK_dict]
  cases lk m x <;> rfl
@[simp] theorem dKs_len (m : List (Str × α)) : (dKs m).length = m.length := by rw [dKs, List.length_map]
@[simp] theorem dVs_len (m : List (Str × α)) : (dVs e m).length = m.length := by rw [dVs, List.length_map]
theorem pt_len (m : List (Str × α)) (x : Str) (v : α) : (pt m x v).length ≤ m.length + 1 := by
  unfold pt
  split
  · rw [List.length_map]; omega
  · rw [List.length_append]; simp
theorem any_dKs (m : List (Str × α)) (x : Str) : ((dKs m).any fun k => decide (k = (.inr x : Key))) = hasK m x := by
  unfold dKs hasK
  rw [List.any_map]
  congr 1
  funext p
  show decide ((.inr p.1 : Key) = .inr x) = decide (p.1 = x)
  by_cases h : p.1 = x
  · rw [decide_eq_true h, decide_eq_true (congrArg Sum.inr h)]
  · rw [decide_eq_false h, decide_eq_false (fun z => h (Sum.inr.inj z))]
theorem setK_dict (x : Str) (v : α) : ∀ m : List (Str × α), setK (dKs m) (dVs e m) (.inr x) (e v) = dVs e (m.map (fun p => if p.1 = x then (p.1, v) else p))
  | [] => rfl
  | (k, w) :: m => by
    show (if (Sum.inr k : Key) = Sum.inr x then e v :: setK (dKs m) (dVs e m) (.inr x) (e v) else e w :: setK (dKs m) (dVs e m) (.inr x) (e v)) = e (if k = x then (k, v) else (k, w)).2 :: dVs e (m.map (fun p => if p.1 = x then (p.1, v) else p))
    rw [setK_dict x v m]
    by_cases h : k = x
    · rw [if_pos h, if_pos (congrArg Sum.inr h)]
    · rw [if_neg h, if_neg (fun z => h (Sum.inr.inj z))]
@[simp] theorem putKD_dict (m : List (Str × α)) (x : Str) (v : α) : putKD (dKs m) (dVs e m) (.inr x) (e v) = dO e (pt m x v) := by
  unfold putKD pt
  rw [any_dKs]
  cases h : hasK m x with
  | true =>
    rw [if_pos rfl, if_pos rfl, setK_dict]
    unfold dO
    congr 1
    show Lab.dk (dKs m) = Lab.dk (dKs (m.map (fun p => if p.1 = x then (p.1, v) else p)))
    congr 1
    unfold dKs
    rw [List.map_map]
    exact List.map_congr_left fun p _ => by
      show (Sum.inr p.1 : Key) = Sum.inr (if p.1 = x then (p.1, v) else p).1
      split <;> rfl
  | false =>
    rw [if_neg Bool.false_ne_true, if_neg Bool.false_ne_true]
    unfold dO dKs dVs
    rw [List.map_append, List.map_append]
    rfl
end

abbrev eI (c : Int) : D := .sc (.int c)
@[simp] theorem y_dgetD {m : List (Str × Int)} {x : Str} {d : Int} {k : O → Prop} : dGetD (.bor (.ow (.dk (dKs m)) (dVs eI m))) (.sh (.sc (.str x))) (.sh (.sc (.int d))) k = k (.sh (.sc (.int ((lk m x).getD d)))) := by
  unfold dGetD
  simp only [dGet, vw, view, partsOf, keyD, getK_dictS]
  cases lk m x <;> rfl
/-! ### values that are compared, shown -/
theorem toPyL_map {α : Type} {f : α → D} {g : α → PyData} (h : ∀ x, toPy (f x) = some (g x)) : ∀ xs : List α, toPyL (xs.map f) = some (xs.map g)
  | [] => rfl
  | x :: xs => by
    show (match toPy (f x), toPyL (xs.map f) with | some p, some ps => some (p :: ps) | _, _ => none) = _
    rw [h x, toPyL_map h xs]
    rfl
theorem toPyL_mapM {α : Type} {f : α → D} {g : α → PyData} : ∀ xs : List α, (∀ x ∈ xs, toPy (f x) = some (g x)) → toPyL (xs.map f) = some (xs.map g)
  | [], _ => rfl
  | x :: xs, h => by
    show (match toPy (f x), toPyL (xs.map f) with | some p, some ps => some (p :: ps) | _, _ => none) = _
    rw [h x List.mem_cons_self, toPyL_mapM xs fun y hy => h y (List.mem_cons_of_mem _ hy)]
    rfl
@[simp] theorem toPy_strD (x : Str) : toPy (strD x) = some (.str x) := rfl
@[simp] theorem toPy_str (x : Str) : toPy (.sc (.str x)) = some (.str x) := rfl
@[simp] theorem toPy_int (x : Int) : toPy (.sc (.int x)) = some (.int x) := rfl
@[simp] theorem toPy_non : toPy (.sc .non) = some .none := rfl
@[simp] theorem toPy_bl (b : Bool) : toPy (.sc (.bl b)) = some (.bool b) := rfl
theorem toPy_lst (ds : List D) : toPy (.nd .lst ds) = (match toPyL ds with | some ps => some (.list ps) | none => none) := rfl
theorem toPy_tup (ds : List D) : toPy (.nd .tup ds) = (match toPyL ds with | some ps => some (.tuple ps) | none => none) := rfl
theorem toPyL_nil : toPyL [] = some [] := by rw [toPyL]
theorem toPyL_cons (d : D) (ds : List D) : toPyL (d :: ds) = (match toPy d, toPyL ds with | some p, some ps => some (p :: ps) | _, _ => none) := rfl
theorem eqvAll_len : ∀ {xs ys : List PyData}, PyData.eqvAll xs ys = true → xs.length = ys.length
  | [], [], _ => rfl
  | [], _ :: _, h => by simp [PyData.eqvAll] at h
  | _ :: _, [], h => by simp [PyData.eqvAll] at h
  | x :: xs, y :: ys, h => by
    have h' : PyData.eqv x y = true ∧ PyData.eqvAll xs ys = true := by simpa [PyData.eqvAll] using h
    rw [List.length_cons, List.length_cons, eqvAll_len h'.2]
end VL

/-! operations at known values, for simp -/
namespace VL
open PySem PySem.Spec L2
section
variable {i j : Int} {x y : Str} {d e : D} {ds es : List D} {os : List O} {a b : O} {k : O → Prop} {l : Lab} {s t : Sc} {neg c : Bool}
/-- a number as a text -/
def numS (i : Int) : Str := Str.ofString (toString i)
abbrev sI (i : Int) : O := .sh (.sc (.int i))
@[simp] theorem y_addI : gAdd (.sh (.sc (.int i))) (.sh (.sc (.int j))) k = k (.sh (.sc (.int (i + j)))) := (rfl)
@[simp] theorem y_addS : gAdd (.sh (.sc (.str x))) (.sh (.sc (.str y))) k = (x.length + y.length ≤ sizeLine ∧ k (.sh (.sc (.str (x ++ y))))) := (rfl)
@[simp] theorem y_addLL : gAdd (.ow .lst ds) (.ow .lst es) k = (ds.length + es.length ≤ sizeLine ∧ k (.ow .lst (ds ++ es))) := (rfl)
@[simp] theorem y_addBL : gAdd (.bor (.ow .lst ds)) (.ow .lst es) k = (ds.length + es.length ≤ sizeLine ∧ k (.ow .lst (ds ++ es))) := (rfl)
@[simp] theorem y_addSL : gAdd (.sh (.nd .lst ds)) (.ow .lst es) k = (ds.length + es.length ≤ sizeLine ∧ k (.ow .lst (ds ++ es))) := (rfl)
@[simp] theorem y_addLS : gAdd (.ow .lst ds) (.sh (.nd .lst es)) k = (ds.length + es.length ≤ sizeLine ∧ k (.ow .lst (ds ++ es))) := (rfl)
@[simp] theorem y_addSS : gAdd (.sh (.nd .lst ds)) (.sh (.nd .lst es)) k = (ds.length + es.length ≤ sizeLine ∧ k (.ow .lst (ds ++ es))) := (rfl)
@[simp] theorem y_addLB : gAdd (.ow .lst ds) (.bor (.ow .lst es)) k = (ds.length + es.length ≤ sizeLine ∧ k (.ow .lst (ds ++ es))) := (rfl)
@[simp] theorem y_addTT : gAdd (.sh (.nd .tup ds)) (.sh (.nd .tup es)) k = (ds.length + es.length ≤ sizeLine ∧ k (.sh (.nd .tup (ds ++ es)))) := (rfl)
@[simp] theorem y_sub : gSub (.sh (.sc (.int i))) (.sh (.sc (.int j))) k = k (.sh (.sc (.int (i - j)))) := (rfl)
@[simp] theorem y_mul : gMul (.sh (.sc (.int i))) (.sh (.sc (.int j))) k = (Builtin.Int.intBits i + Builtin.Int.intBits j ≤ 134217728 ∧ k (.sh (.sc (.int (i * j))))) := (rfl)
@[simp] theorem y_mulS : gMul (.sh (.sc (.str x))) (.sh (.sc (.int j))) k = ((-(2 ^ 63) ≤ j ∧ j < 2 ^ 63 ∧ x.length * j.toNat ≤ sizeLine) ∧ k (.sh (.sc (.str (repS x j.toNat))))) := (rfl)
@[simp] theorem y_mulL : gMul (.ow .lst ds) (.sh (.sc (.int j))) k = ((-(2 ^ 63) ≤ j ∧ j < 2 ^ 63 ∧ ds.length * j.toNat ≤ sizeLine) ∧ k (.ow .lst (List.replicate j.toNat ds).flatten)) := (rfl)
@[simp] theorem y_mod : gMod (.sh (.sc (.int i))) (.sh (.sc (.int j))) k = (0 < j ∧ k (.sh (.sc (.int (i % j))))) := (rfl)
@[simp] theorem y_div : gDiv (.sh (.sc (.int i))) (.sh (.sc (.int j))) k = ((0 < j ∧ j.natAbs.log2 < 9000) ∧ k (.sh (.sc (.int (i / j))))) := (rfl)
@[simp] theorem y_pow : gPow (.sh (.sc (.int i))) (.sh (.sc (.int j))) k = ((0 ≤ j ∧ Builtin.Int.intBits i * j.toNat ≤ 134217728) ∧ k (.sh (.sc (.int (i ^ j.toNat))))) := (rfl)
@[simp] theorem y_lt : gLt (.sh (.sc (.int i))) (.sh (.sc (.int j))) k = k (.sh (.sc (.bl (decide (i < j))))) := (rfl)
@[simp] theorem y_le : gLe (.sh (.sc (.int i))) (.sh (.sc (.int j))) k = k (.sh (.sc (.bl (decide (i ≤ j))))) := (rfl)
@[simp] theorem y_gt : gGt (.sh (.sc (.int i))) (.sh (.sc (.int j))) k = k (.sh (.sc (.bl (decide (j < i))))) := (rfl)
@[simp] theorem y_ge : gGe (.sh (.sc (.int i))) (.sh (.sc (.int j))) k = k (.sh (.sc (.bl (decide (j ≤ i))))) := (rfl)
@[simp] theorem y_eqS : gEq neg (.sh (.sc (.str x))) (.sh (.sc (.str y))) k = k (.sh (.sc (.bl (nb neg (decide (x = y)))))) := by
  show (scal (.str x) (.str y) = true ∧ k (.sh (.sc (.bl (nb neg (decide (Sc.str x = Sc.str y)))))) ) = _
  have e : decide (Sc.str x = Sc.str y) = decide (x = y) := by
    by_cases h : x = y
    · rw [decide_eq_true h, decide_eq_true (congrArg Sc.str h)]
    · rw [decide_eq_false h, decide_eq_false (fun z => h (Sc.str.inj z))]
  have e2 : scal (.str x) (.str y) = true := (rfl)
  rw [e, e2, eq_self, true_and]
@[simp] theorem y_eqI : gEq neg (.sh (.sc (.int i))) (.sh (.sc (.int j))) k = k (.sh (.sc (.bl (nb neg (decide (i = j)))))) := by
  show (scal (.int i) (.int j) = true ∧ k (.sh (.sc (.bl (nb neg (decide (Sc.int i = Sc.int j)))))) ) = _
  have e : decide (Sc.int i = Sc.int j) = decide (i = j) := by
    by_cases h : i = j
    · rw [decide_eq_true h, decide_eq_true (congrArg Sc.int h)]
    · rw [decide_eq_false h, decide_eq_false (fun z => h (Sc.int.inj z))]
  have e2 : scal (.int i) (.int j) = true := (rfl)
  rw [e, e2, eq_self, true_and]
@[simp] theorem y_nbT : nb true c = !c := (rfl)
@[simp] theorem y_nbF : nb false c = c := (rfl)
@[simp] theorem y_isN : gIsN neg (.sh d) (.sh (.sc .non)) k = k (.sh (.sc (.bl (nb neg (isNonD d))))) := (rfl)
@[simp] theorem y_isNI : isNonD (.sc (.int i)) = false := (rfl)
@[simp] theorem y_isNN : isNonD (.sc .non) = true := (rfl)
@[simp] theorem y_isNS : isNonD (.sc (.str x)) = false := (rfl)
theorem outO_map (f : Option D) : outO (f.map .sh) k = onSome f fun d => k (.sh d) := by cases f <;> rfl
theorem atI_map {α β : Type} (f : α → β) (xs : List α) (i : Int) : atI (xs.map f) i = (atI xs i).map f := by
  simp only [atI, List.length_map]
  cases ixN xs.length i with
  | none => rfl
  | some n => simp
@[simp] theorem y_ixSL : gIx (.sh (.nd .lst ds)) (.sh (.sc (.int i))) k = onSome (atI ds i) fun d => k (.sh d) := by
  show (true = true ∧ outO (atI (ds.map .sh) i) k) = _
  rw [atI_map, outO_map, eq_self, true_and]
@[simp] theorem y_ixSF : gIx (.sh (.nd .fzl ds)) (.sh (.sc (.int i))) k = onSome (atI ds i) fun d => k (.sh d) := by
  show (true = true ∧ outO (atI (ds.map .sh) i) k) = _
  rw [atI_map, outO_map, eq_self, true_and]
@[simp] theorem y_ixST : gIx (.sh (.nd .tup ds)) (.sh (.sc (.int i))) k = onSome (atI ds i) fun d => k (.sh d) := by
  show (true = true ∧ outO (atI (ds.map .sh) i) k) = _
  rw [atI_map, outO_map, eq_self, true_and]
@[simp] theorem y_ixOL : gIx (.ow .lst ds) (.sh (.sc (.int i))) k = onSome (atI ds i) fun d => k (.sh d) := by
  show (true = true ∧ outO (atI (ds.map .sh) i) k) = _
  rw [atI_map, outO_map, eq_self, true_and]
@[simp] theorem y_ixBL : gIx (.bor (.ow .lst ds)) (.sh (.sc (.int i))) k = onSome (atI ds i) fun d => k (.sh d) := by
  show (true = true ∧ outO (atI (ds.map .sh) i) k) = _
  rw [atI_map, outO_map, eq_self, true_and]
@[simp] theorem y_ixSt : gIx (.sh (.sc (.str x))) (.sh (.sc (.int i))) k = (x.length ≤ sizeLine ∧ onSome (atI x.cps.toList i) fun c => k (.sh (.sc (.str ⟨#[c]⟩)))) := by
  show (x.length ≤ sizeLine ∧ match atI x.cps.toList i with
      | some c => k (.sh (.sc (.str ⟨#[c]⟩)))
      | none => False) = _
  cases atI x.cps.toList i <;> rfl
@[simp] theorem y_ixBD {ks : List Key} : gIx (.bor (.ow (.dk ks) ds)) (.sh e) k = onSome (keyD e) fun y => outO (getK ks (ds.map .sh) y) k := by
  show (match keyD e with | some y => outO (getK ks (ds.map .sh) y) k | none => False) = _
  cases keyD e <;> rfl
@[simp] theorem y_isi {n : String} : gIsi (.sh d) (.sh (.sc (.ty n))) k = onSome (tyName d) fun t => knownTy n = true ∧ k (.sh (.sc (.bl (isTy t n)))) := by
  show (match tyName d with | some t => knownTy n = true ∧ k (.sh (.sc (.bl (isTy t n)))) | none => False) = _
  cases tyName d <;> rfl
@[simp] theorem y_len : gLen a k = onSome (lenOf a) fun n => k (.sh (.sc (.int n))) := by
  unfold gLen
  cases lenOf a <;> rfl
@[simp] theorem y_lenSL : lenOf (.sh (.nd .lst ds)) = some ds.length := by simp [lenOf, isSeqL]
@[simp] theorem y_lenSF : lenOf (.sh (.nd .fzl ds)) = some ds.length := by simp [lenOf, isSeqL]
@[simp] theorem y_lenST : lenOf (.sh (.nd .tup ds)) = some ds.length := by simp [lenOf, isSeqL]
@[simp] theorem y_lenOL : lenOf (.ow .lst ds) = some ds.length := by simp [lenOf, isSeqL]
@[simp] theorem y_lenBL : lenOf (.bor (.ow .lst ds)) = some ds.length := by simp [lenOf, isSeqL]
@[simp] theorem y_lenBD {ks : List Key} : lenOf (.bor (.ow (.dk ks) ds)) = some ds.length := by simp [lenOf]
@[simp] theorem y_lenStr : lenOf (.sh (.sc (.str x))) = if x.length ≤ sizeLine then some x.length else none := by simp [lenOf]
@[simp] theorem y_i2 {f : Int → Int → Int} : gI2 f (.sh (.sc (.int i))) (.sh (.sc (.int j))) k = k (.sh (.sc (.int (f i j)))) := (rfl)
@[simp] theorem y_i1 {f : Int → Int} : gI1 f (.sh (.sc (.int i))) k = k (.sh (.sc (.int (f i)))) := (rfl)
@[simp] theorem y_int1I : gInt1 (.sh (.sc (.int i))) k = k (.sh (.sc (.int i))) := (rfl)
@[simp] theorem y_int1B : gInt1 (.sh (.sc (.bl c))) k = k (.sh (.sc (.int (if c then 1 else 0)))) := (rfl)
@[simp] theorem y_int1S : gInt1 (.sh (.sc (.str x))) k = onSome (PySem.intText? x) fun n => x.length ≤ 640 ∧ k (.sh (.sc (.int n))) := by
  show (match PySem.intText? x with | some n => x.length ≤ 640 ∧ k (.sh (.sc (.int n))) | none => False) = _
  cases PySem.intText? x <;> rfl
@[simp] theorem y_str1I : gStr1 (.sh (.sc (.int i))) k = (i.natAbs.log2 < 1920 ∧ k (.sh (.sc (.str (numS i))))) := (rfl)
@[simp] theorem y_str1S : gStr1 (.sh (.sc (.str x))) k = k (.sh (.sc (.str x))) := (rfl)
@[simp] theorem y_list1S : gList1 (.sh (.nd .lst ds)) k = k (.ow .lst ds) := by simp [gList1, isSeqL]
@[simp] theorem y_list1B : gList1 (.bor (.ow .lst ds)) k = k (.ow .lst ds) := by simp [gList1, isSeqL]
@[simp] theorem y_list1O : gList1 (.ow .lst ds) k = k (.ow .lst ds) := by simp [gList1, isSeqL]
@[simp] theorem y_slS {lo hi : Option Int} : gSl (.sh (.sc (.str x))) lo hi k = (x.length ≤ sizeLine ∧ k (.sh (.sc (.str (cutS x lo hi))))) := (rfl)
@[simp] theorem y_slSL {lo hi : Option Int} : gSl (.sh (.nd .lst ds)) lo hi k = k (.ow .lst (cutL ds lo hi)) := (rfl)
@[simp] theorem y_slBL {lo hi : Option Int} : gSl (.bor (.ow .lst ds)) lo hi k = k (.ow .lst (cutL ds lo hi)) := by simp [gSl]
@[simp] theorem y_slOL {lo hi : Option Int} : gSl (.ow .lst ds) lo hi k = k (.ow .lst (cutL ds lo hi)) := (rfl)
@[simp] theorem y_slST {lo hi : Option Int} : gSl (.sh (.nd .tup ds)) lo hi k = k (.sh (.nd .tup (cutL ds lo hi))) := (rfl)
@[simp] theorem y_joinO : gJoin (.sh (.sc (.str x))) (.ow .lst ds) k = onSome (strsOf ds) fun ys => (ys.map fun z : Str => z.length).sum + ys.length * x.length ≤ 16777216 ∧ k (.sh (.sc (.str (Txt.join x ys)))) := by
  show (match strsOf ds with | some ys => (ys.map fun z : Str => z.length).sum + ys.length * x.length ≤ 16777216 ∧ k (.sh (.sc (.str (Txt.join x ys)))) | none => False) = _
  cases strsOf ds <;> rfl
@[simp] theorem y_joinS : gJoin (.sh (.sc (.str x))) (.sh (.nd .lst ds)) k = onSome (strsOf ds) fun ys => (ys.map fun z : Str => z.length).sum + ys.length * x.length ≤ 16777216 ∧ k (.sh (.sc (.str (Txt.join x ys)))) := by
  show (match strsOf ds with | some ys => (ys.map fun z : Str => z.length).sum + ys.length * x.length ≤ 16777216 ∧ k (.sh (.sc (.str (Txt.join x ys)))) | none => False) = _
  cases strsOf ds <;> rfl
@[simp] theorem y_joinB : gJoin (.sh (.sc (.str x))) (.bor (.ow .lst ds)) k = onSome (strsOf ds) fun ys => (ys.map fun z : Str => z.length).sum + ys.length * x.length ≤ 16777216 ∧ k (.sh (.sc (.str (Txt.join x ys)))) := by
  show (match strsOf ds with | some ys => (ys.map fun z : Str => z.length).sum + ys.length * x.length ≤ 16777216 ∧ k (.sh (.sc (.str (Txt.join x ys)))) | none => False) = _
  cases strsOf ds <;> rfl
@[simp] theorem y_strs (ys : List Str) : strsOf (ys.map strD) = some ys := strsOf_map ys
@[simp] theorem y_split : gSplit (.sh (.sc (.str x))) (.sh (.sc (.str y))) k = (((y.length == 0) = false ∧ x.length + 2 ≤ sizeLine) ∧ k (.ow .lst ((Txt.split x y).map strD))) := (rfl)
@[simp] theorem y_part : gPartition (.sh (.sc (.str x))) (.sh (.sc (.str y))) k = (((y.length == 0) = false ∧ x.length ≤ sizeLine) ∧ k (.sh (.nd .tup [strD (Txt.partition x y).1, strD (Txt.partition x y).2.1, strD (Txt.partition x y).2.2]))) := (rfl)
@[simp] theorem y_new0 {mk : List O → O} : gNew mk [] k = k (mk []) := by simp [gNew]
@[simp] theorem y_mkL0 : mkLst [] = .ow .lst [] := (rfl)
@[simp] theorem y_inS : gInW neg (.sh (.sc (.str x))) (.sh (.sc (.str y))) k = k (.sh (.sc (.bl (nb neg (strIn x y))))) := (rfl)
@[simp] theorem y_strIn1 {n : Nat} : strIn ⟨#[n]⟩ y = decide (n ∈ y.cps.toList) := (rfl)
theorem flats_strs (ys : List Str) : flats (ys.map strD) = some (ys.map Sc.str) := by
  induction ys with
  | nil => rfl
  | cons x ys ih =>
    show (if scFlat (.str x) = true then match flats (ys.map strD) with | some ss => some (Sc.str x :: ss) | none => none else none) = _
    rw [ih]
    rfl
end
theorem shL_sh (ds : List D) : shL (ds.map .sh) = some ds := by
  induction ds with
  | nil => rfl
  | cons d ds ih =>
    show (match shL (ds.map .sh) with | some es => some (d :: es) | none => none) = _
    rw [ih]
end VL

namespace VL
open PySem PySem.Spec L2
theorem bits_lt {x : Int} {m : Nat} (h0 : 0 ≤ x) (h : x < 2 ^ m) : Builtin.Int.intBits x ≤ m := by
  refine PySem.intBits_le_iff.mpr ?_
  have : (x.natAbs : Int) < ((2 ^ m : Nat) : Int) := by
    rw [Int.natAbs_of_nonneg h0]
    simpa using h
  exact Int.ofNat_lt.mp this
theorem log_lt {x : Int} {m : Nat} (h0 : 0 < x) (h : x < 2 ^ m) : x.natAbs.log2 < m := by
  have h1 : x.natAbs ≠ 0 := by omega
  refine (Nat.log2_lt h1).mpr ?_
  have : (x.natAbs : Int) < ((2 ^ m : Nat) : Int) := by
    rw [Int.natAbs_of_nonneg (Int.le_of_lt h0)]
    simpa using h
  exact Int.ofNat_lt.mp this
theorem tl_numS (n : Nat) : TL.tl (numS (n : Nat)) = TL.numL n := TL.tl_num n
theorem numS_len {n k : Nat} (hk : 0 < k) (h : n < 10 ^ k) : (numS (n : Nat)).length ≤ k := by
  rw [TL.len_tl, tl_numS]
  exact TL.numL_len hk h
theorem logN {n m : Nat} (h : n < 2 ^ m) (hm : 0 < m) : (n : Int).natAbs.log2 < m := by
  rcases Nat.eq_zero_or_pos n with e | e
  · subst e
    simpa using hm
  · exact (Nat.log2_lt (by omega)).mpr (by simpa using h)
end VL

namespace VL
open PySem PySem.Spec L2
theorem atI_get {α : Type} {xs : List α} {k : Int} (h0 : 0 ≤ k) (h1 : k < xs.length) : ∃ x, atI xs k = some x ∧ x ∈ xs := by
  have h2 : k.toNat < xs.length := by omega
  refine ⟨xs[k.toNat], ?_, List.getElem_mem h2⟩
  simp only [atI, ixN]
  rw [if_pos h0, if_pos h1, Option.bind_some, List.getElem?_eq_getElem h2]
theorem atI_mem {α : Type} {xs : List α} {k : Int} (h0 : -(xs.length : Int) ≤ k) (h1 : k < xs.length) : ∃ x, atI xs k = some x ∧ x ∈ xs := by
  by_cases hk : 0 ≤ k
  · exact atI_get hk h1
  · have h2 : (k + xs.length).toNat < xs.length := by omega
    refine ⟨xs[(k + xs.length).toNat], ?_, List.getElem_mem h2⟩
    simp only [atI, ixN]
    rw [if_neg hk, if_pos h0, Option.bind_some, List.getElem?_eq_getElem h2]
theorem at_strs {ks : List Str} {r : Int} {k : D → Prop} (h0 : -(ks.length : Int) ≤ r) (h1 : r < ks.length) (h : ∀ x ∈ ks, k (strD x)) : onSome (atI (ks.map strD) r) k := by
  obtain ⟨d, e, hm⟩ := atI_mem (xs := ks.map strD) (by rw [List.length_map]; exact h0) (by rw [List.length_map]; exact h1)
  obtain ⟨x, hx, rfl⟩ := List.mem_map.mp hm
  rw [e]
  exact h x hx
theorem idx_strs {ks : List Str} {y : Str} {k : O → Prop} {a : O} (ha : view a = some (.nd .lst (ks.map strD))) (hy : y ∈ ks) (h : ∀ j : Nat, j < ks.length → k (.sh (.sc (.int j)))) : gIndex a (.sh (strD y)) k := by
  unfold gIndex lstOf vw
  rw [ha]
  show match (.sc (.str y) : D), flats (ks.map strD) with
    | .sc s, some ss => scFlat s = true ∧ match ss.findIdx? fun t => eqV t.v s.v with
      | some j => k (.sh (.sc (.int (j : Nat))))
      | none => False
    | _, _ => False
  rw [flats_strs]
  refine ⟨rfl, ?_⟩
  have h0 : ((ks.map Sc.str).findIdx? fun t => eqV t.v (Sc.str y).v).isSome = true := by
    rw [List.findIdx?_isSome, List.any_map, List.any_eq_true]
    refine ⟨y, hy, ?_⟩
    show eqV (V.str y) (V.str y) = true
    simp [eqV]
  cases e : (ks.map Sc.str).findIdx? fun t => eqV t.v (Sc.str y).v with
  | none => rw [e] at h0; cases h0
  | some j =>
    have := (List.findIdx?_eq_some_iff_findIdx_eq.mp e).1
    rw [List.length_map] at this
    exact h j this
theorem popAt_of {ys : List D} {r : Int} {kk : O → O → Prop} (h0 : 0 ≤ r) (h1 : r < ys.length) (hz : ys.length ≤ 2 ^ 60) (h : ∀ (hr : r.toNat < ys.length), kk (.sh ys[r.toNat]) (.ow .lst (ys.eraseIdx r.toNat))) : mPopAt (.ow .lst ys) [.sh (.sc (.int r))] kk := by
  have h2 : r.toNat < ys.length := by omega
  have e : seqIndex? r ys.length = some r.toNat := by
    unfold seqIndex?
    simp only [show ¬ r < 0 by omega, if_false, h0, h1]
    simp
  show (-(2 ^ 63) ≤ r ∧ r < 2 ^ 63) ∧ match seqIndex? r ys.length with
    | some j => match ys[j]? with
      | some d => kk (.sh d) (.ow .lst (ys.eraseIdx j))
      | none => False
    | none => False
  rw [e]
  refine ⟨⟨by omega, by omega⟩, ?_⟩
  show match ys[r.toNat]? with
      | some d => kk (.sh d) (.ow .lst (ys.eraseIdx r.toNat))
      | none => False
  rw [List.getElem?_eq_getElem h2]
  exact h h2
theorem pop0_of {y : D} {ys : List D} {kk : O → O → Prop} (h : kk (.sh y) (.ow .lst ys)) : mPopAt (.ow .lst (y :: ys)) [.sh (.sc (.int 0))] kk := by
  show (-(2 ^ 63) ≤ (0 : Int) ∧ (0 : Int) < 2 ^ 63) ∧ _
  refine ⟨by decide, ?_⟩
  show match seqIndex? 0 (y :: ys).length with
    | some j => match (y :: ys)[j]? with
      | some d => kk (.sh d) (.ow .lst ((y :: ys).eraseIdx j))
      | none => False
    | none => False
  have e : seqIndex? 0 (y :: ys).length = some 0 := by
    unfold seqIndex?
    simp
  rw [e]
  exact h
end VL

/-! data that may be compared, shown -/
namespace VL
open PySem PySem.Spec L2

/-- fit for == : no dicts, valid texts, depth at most n -/
def Fit (n : Nat) (p : PyData) : Prop := p.canLay0 = true ∧ p.depth ≤ n
theorem Fit.shaped {n : Nat} {p : PyData} (h : Fit n p) (hn : n ≤ 64) : SeqAt.shaped p = true := by
  show (p.canLay0 && decide (p.depth ≤ 64)) = true
  rw [h.1, decide_eq_true (Nat.le_trans h.2 hn)]
  rfl
theorem Fit.str {x : Str} {n : Nat} (h : PyData.strOk x = true) : Fit n (.str x) := ⟨by simpa [PyData.canLay0] using h, by simp [PyData.depth]⟩
theorem Fit.int {x : Int} {n : Nat} : Fit n (.int x) := ⟨by simp [PyData.canLay0], by simp [PyData.depth]⟩
theorem Fit.non {n : Nat} : Fit n .none := ⟨by simp [PyData.canLay0], by simp [PyData.depth]⟩
theorem Fit.bl {b : Bool} {n : Nat} : Fit n (.bool b) := ⟨by simp [PyData.canLay0], by simp [PyData.depth]⟩
theorem Fit.alls {n : Nat} : ∀ {ps : List PyData}, (∀ p ∈ ps, Fit n p) → PyData.canLayAll0 ps = true ∧ PyData.depthAll ps ≤ n
  | [], _ => ⟨by simp [PyData.canLayAll0], by simp [PyData.depthAll]⟩
  | p :: ps, h => by
    obtain ⟨h1, h2⟩ := Fit.alls fun q hq => h q (List.mem_cons_of_mem _ hq)
    obtain ⟨h3, h4⟩ := h p List.mem_cons_self
    refine ⟨by simp [PyData.canLayAll0, h1, h3], ?_⟩
    simp only [PyData.depthAll]
    omega
theorem Fit.list {n : Nat} {ps : List PyData} (h : ∀ p ∈ ps, Fit n p) : Fit (n + 1) (.list ps) := by
  obtain ⟨h1, h2⟩ := Fit.alls h
  refine ⟨by simpa [PyData.canLay0] using h1, ?_⟩
  simp only [PyData.depth]
  omega
theorem Fit.tuple {n : Nat} {ps : List PyData} (h : ∀ p ∈ ps, Fit n p) : Fit (n + 1) (.tuple ps) := by
  obtain ⟨h1, h2⟩ := Fit.alls h
  refine ⟨by simpa [PyData.canLay0] using h1, ?_⟩
  simp only [PyData.depth]
  omega
theorem Fit.eqv {n : Nat} {p : PyData} (h : Fit n p) : PyData.eqv p p = true := SeqAt.eqv_refl p h.1
/-- the data of d is p, fit -/
def Dat (n : Nat) (d : D) (p : PyData) : Prop := toPy d = some p ∧ Fit n p
theorem Dat.list {α : Type} {n : Nat} {f : α → D} {g : α → PyData} {xs : List α} (h : ∀ x ∈ xs, Dat n (f x) (g x)) : Dat (n + 1) (.nd .lst (xs.map f)) (.list (xs.map g)) := by
  refine ⟨?_, Fit.list fun p hp => ?_⟩
  · rw [toPy_lst, toPyL_mapM xs fun x hx => (h x hx).1]
  · obtain ⟨x, hx, rfl⟩ := List.mem_map.mp hp
    exact (h x hx).2
theorem Dat.str {x : Str} {n : Nat} (h : PyData.strOk x = true) : Dat n (strD x) (.str x) := ⟨rfl, Fit.str h⟩
theorem Dat.int {x : Int} {n : Nat} : Dat n (.sc (.int x)) (.int x) := ⟨rfl, Fit.int⟩
theorem Dat.non {n : Nat} : Dat n (.sc .non) .none := ⟨rfl, Fit.non⟩
theorem Dat.tup1 {n : Nat} {d : D} {p : PyData} (h : Dat n d p) : Dat (n + 1) (.nd .tup [d]) (.tuple [p]) := by
  refine ⟨?_, Fit.tuple fun q hq => ?_⟩
  · rw [toPy_tup, toPyL_cons, h.1, toPyL_nil]
  · rw [List.mem_singleton.mp hq]; exact h.2
theorem Dat.tup2 {n : Nat} {d d2 : D} {p p2 : PyData} (h : Dat n d p) (h2 : Dat n d2 p2) : Dat (n + 1) (.nd .tup [d, d2]) (.tuple [p, p2]) := by
  refine ⟨?_, Fit.tuple fun q hq => ?_⟩
  · rw [toPy_tup, toPyL_cons, h.1, toPyL_cons, h2.1, toPyL_nil]
  · rcases List.mem_cons.mp hq with e | hq
    · rw [e]; exact h.2
    · rw [List.mem_singleton.mp hq]; exact h2.2
theorem Dat.nil {n : Nat} : Dat (n + 1) (.nd .lst []) (.list []) := Dat.list (α := Nat) (f := fun _ => .sc .non) (g := fun _ => .none) (xs := []) fun x hx => by cases hx
theorem Dat.le {n m : Nat} {d : D} {p : PyData} (h : Dat n d p) (hm : n ≤ m) : Dat m d p := ⟨h.1, h.2.1, Nat.le_trans h.2.2 hm⟩
theorem not_both {d e : D} : ∀ {k : O → Prop} {neg : Bool} (a b : O), view a = some d → view b = some e → (∀ s t, d = .sc s → e = .sc t → False) → gEq neg a b k = deepEq neg d e fun c => k (.sh (.sc (.bl c))) := by
  intro k neg a b h1 h2 hn
  unfold gEq vw
  rw [h1, h2]
  dsimp only
  split
  · exact (hn _ _ rfl rfl).elim
  · rfl
/-- == of data that is not scalar on both sides -/
theorem eq_dat {n m : Nat} {d e : D} {p q : PyData} {k : O → Prop} {neg : Bool} {a b : O} (ha : view a = some d) (hb : view b = some e) (h1 : Dat n d p) (h2 : Dat m e q) (hn : n ≤ 64) (hm : m ≤ 64) (hs : ∀ s t, d = .sc s → e = .sc t → False) (h : k (.sh (.sc (.bl (nb neg (PyData.eqv p q)))))) : gEq neg a b k := by
  rw [not_both a b ha hb hs]
  unfold deepEq
  rw [h1.1, h2.1]
  exact ⟨⟨h1.2.shaped hn, h2.2.shaped hm⟩, h⟩
theorem any_strs (x : Str) : ∀ ys : List Str, ((ys.map PyData.str).any fun z => PyData.eqv z (.str x)) = decide (x ∈ ys)
  | [] => rfl
  | y :: ys => by
    rw [List.map_cons, List.any_cons, any_strs x ys]
    have e : PyData.eqv (.str y) (.str x) = decide (x = y) := by
      have : PyData.eqv (.str y) (.str x) = (y == x) := by simp [PyData.eqv]
      rw [this]
      by_cases h : x = y
      · subst h; rw [decide_eq_true rfl]; exact beq_self_eq_true x
      · rw [decide_eq_false h]; exact beq_eq_false_iff_ne.mpr fun z => h z.symm
    rw [e]
    by_cases h : x = y
    · simp [h]
    · by_cases h2 : x ∈ ys <;> simp [h, h2]
/-- x in a list of texts -/
theorem in_strs {neg : Bool} {x : Str} {ys : List Str} {k : O → Prop} {b : O} (hb : view b = some (.nd .lst (ys.map strD))) (hp : ∀ ks os, partsOf b ≠ some (.dk ks, os)) (hx : PyData.strOk x = true) (hy : ∀ y ∈ ys, PyData.strOk y = true) (h : k (.sh (.sc (.bl (nb neg (decide (x ∈ ys))))))) : gInW neg (.sh (.sc (.str x))) b k := by
  have e1 : gInW neg (.sh (.sc (.str x))) b k = gIn neg (.sh (.sc (.str x))) b k := by
    unfold gInW
    split
    · rename_i e
      exact absurd e (hp _ _)
    · rfl
  rw [e1]
  unfold gIn vw
  rw [hb]
  show inL neg (.sc (.str x)) (ys.map strD) k
  unfold inL
  have e2 : toPyL (ys.map strD) = some (ys.map PyData.str) := toPyL_map (fun _ => rfl) ys
  rw [e2]
  refine ⟨⟨(Fit.str (n := 0) hx).shaped (by decide), (Fit.list (n := 0) fun p hp => ?_).shaped (by decide)⟩, ?_⟩
  · obtain ⟨y, hy', rfl⟩ := List.mem_map.mp hp
    exact Fit.str (hy y hy')
  · have e3 := any_strs x ys
    rw [e3]
    exact h
end VL

/-! data that may be shown, and how long that is -/
namespace VL
open PySem PySem.Spec L2

theorem listText_len (ts : List Str) : (listText ts).length ≤ piled ts + 2 := by
  unfold listText
  rw [Str.length_append]
  have e2 : (("]" : String) : Str).length = 1 := by decide +kernel
  have e1 : (("[" : String) : Str).length = 1 := by decide +kernel
  rw [e2]
  cases ts with
  | nil => show (("[" : String) : Str).length + 1 ≤ _; rw [e1]; omega
  | cons t r =>
    have h := textFrom_length_pos r 1 (("[" : Str) ++ (if (0 : Nat) > 0 then ", " else "" : String) ++ t) (Nat.succ_pos 0)
    have hY : (textFrom 0 "[" (t :: r)).length = (textFrom 1 (("[" : Str) ++ (if (0 : Nat) > 0 then ", " else "" : String) ++ t) r).length := rfl
    have e : ((("[" : Str) ++ (if (0 : Nat) > 0 then ", " else "" : String) ++ t)).length = 1 + t.length := by
      rw [Str.length_append, Str.length_append, e1]
      have : (((if (0 : Nat) > 0 then ", " else "" : String) : Str)).length = 0 := by decide +kernel
      rw [this]
    rw [hY, h, e, piled_cons]
    omega
theorem tupleText_len (ts : List Str) : (tupleText ts).length ≤ piled ts + 3 := by
  unfold tupleText
  rw [Str.length_append, Str.length_append]
  have e1 : (("(" : String) : Str).length = 1 := by decide +kernel
  have e3 : (((if ts.length == 1 then ",)" else ")" : String) : Str)).length ≤ 2 := by split <;> decide +kernel
  rw [e1]
  by_cases h : ts = []
  · subst h
    have : (Str.join ", " []).length = 0 := rfl
    rw [this]
    omega
  · have := join_length_add ts h
    omega
/-- fit to be shown: at most n signs, depth at most k -/
def Shw (k n : Nat) (p : PyData) : Prop := p.showable = true ∧ p.hasDict = false ∧ p.depth ≤ k ∧ p.shown.length ≤ n
theorem Shw.le {k n k' n' : Nat} {p : PyData} (h : Shw k n p) (hk : k ≤ k') (hn : n ≤ n') : Shw k' n' p := ⟨h.1, h.2.1, Nat.le_trans h.2.2.1 hk, Nat.le_trans h.2.2.2 hn⟩
theorem Shw.str {x : Str} {k m : Nat} (h : PyData.strOk x = true) (hl : x.length ≤ m) : Shw k (10 * m + 2) (.str x) := by
  refine ⟨rfl, by simp [PyData.hasDict], by simp [PyData.depth], ?_⟩
  show (reprText x).length ≤ _
  refine Nat.le_trans (StrLaws.reprText_len x fun c hc => ?_) (by omega)
  unfold PyData.strOk at h
  rw [← Array.all_toList, List.all_eq_true] at h
  have := of_decide_eq_true (h c hc)
  exact Nat.lt_trans this (by decide)
theorem Shw.non {k : Nat} : Shw k 4 .none := ⟨rfl, by simp [PyData.hasDict], by simp [PyData.depth], by decide +kernel⟩
theorem Shw.nat {n k m : Nat} (hm : 0 < m) (h : n < 10 ^ m) (h2 : n < 2 ^ 1920) : Shw k m (.int (n : Nat)) := by
  refine ⟨?_, by simp [PyData.hasDict], by simp [PyData.depth], ?_⟩
  · show decide (((n : Nat) : Int).natAbs.log2 < 1920) = true
    exact decide_eq_true (logN h2 (by decide))
  · exact numS_len hm h
theorem Shw.alls {k : Nat} : ∀ {ps : List PyData} {f : PyData → Nat}, (∀ p ∈ ps, Shw k (f p) p) → PyData.showableAll ps = true ∧ PyData.hasDictAll ps = false ∧ PyData.depthAll ps ≤ k ∧ piled (PyData.shownAll ps) ≤ (ps.map fun p => f p + 2).sum
  | [], _, _ => ⟨rfl, by simp [PyData.hasDictAll], by simp [PyData.depthAll], Nat.le_refl _⟩
  | p :: ps, f, h => by
    obtain ⟨h1, h2, h3, h4⟩ := Shw.alls (f := f) fun q hq => h q (List.mem_cons_of_mem _ hq)
    obtain ⟨g1, g2, g3, g4⟩ := h p List.mem_cons_self
    refine ⟨by simp [PyData.showableAll, g1, h1], by simp [PyData.hasDictAll, g2, h2], ?_, ?_⟩
    · simp only [PyData.depthAll]
      omega
    · show piled (p.shown :: PyData.shownAll ps) ≤ _
      rw [piled_cons, List.map_cons, List.sum_cons]
      omega
theorem Shw.list {k : Nat} {ps : List PyData} {f : PyData → Nat} (h : ∀ p ∈ ps, Shw k (f p) p) : Shw (k + 1) ((ps.map fun p => f p + 2).sum + 2) (.list ps) := by
  obtain ⟨h1, h2, h3, h4⟩ := Shw.alls h
  refine ⟨by simpa [PyData.showable] using h1, by simpa [PyData.hasDict] using h2, ?_, ?_⟩
  · simp only [PyData.depth]
    omega
  · show (listText (PyData.shownAll ps)).length ≤ _
    have := listText_len (PyData.shownAll ps)
    omega
theorem Shw.tuple {k : Nat} {ps : List PyData} {f : PyData → Nat} (h : ∀ p ∈ ps, Shw k (f p) p) : Shw (k + 1) ((ps.map fun p => f p + 2).sum + 3) (.tuple ps) := by
  obtain ⟨h1, h2, h3, h4⟩ := Shw.alls h
  refine ⟨by simpa [PyData.showable] using h1, by simpa [PyData.hasDict] using h2, ?_, ?_⟩
  · simp only [PyData.depth]
    omega
  · show (tupleText (PyData.shownAll ps)).length ≤ _
    have := tupleText_len (PyData.shownAll ps)
    omega
theorem sum_const {α : Type} (ps : List α) (m : Nat) : (ps.map fun _ => m + 2).sum = ps.length * (m + 2) := by
  induction ps with
  | nil => simp
  | cons p ps ih => rw [List.map_cons, List.sum_cons, ih, List.length_cons, Nat.succ_mul]; omega
theorem Shw.listN {k m : Nat} {ps : List PyData} (h : ∀ p ∈ ps, Shw k m p) : Shw (k + 1) (ps.length * (m + 2) + 2) (.list ps) := by
  have := Shw.list (f := fun _ => m) h
  rw [sum_const] at this
  exact this
theorem Shw.tupleN {k m : Nat} {ps : List PyData} (h : ∀ p ∈ ps, Shw k m p) : Shw (k + 1) (ps.length * (m + 2) + 3) (.tuple ps) := by
  have := Shw.tuple (f := fun _ => m) h
  rw [sum_const] at this
  exact this
/-- repr of a value -/
theorem repr_of {k n : Nat} {a : O} {d : D} {p : PyData} {K : O → Prop} (hv : view a = some d) (hp : toPy d = some p) (h : Shw k n p) (hk : k ≤ 64) (hn : n ≤ sizeLine) (hK : K (.sh (.sc (.str p.shown)))) : gRepr a K := by
  unfold gRepr vw
  rw [hv]
  show match toPy d with
    | some p => (p.showable = true ∧ p.hasDict = false ∧ p.depth ≤ 64 ∧ p.shown.length ≤ sizeLine) ∧ K (.sh (.sc (.str p.shown)))
    | none => False
  rw [hp]
  exact ⟨⟨h.1, h.2.1, Nat.le_trans h.2.2.1 hk, Nat.le_trans h.2.2.2 hn⟩, hK⟩
theorem digitsVal_lt : ∀ (l : List Nat) (a : Nat), NumText.AllDigits l → l.foldl (fun acc c => acc * 10 + (c - 48)) a < (a + 1) * 10 ^ l.length
  | [], a, _ => by simp
  | c :: l, a, h => by
    have hc := h c (by simp)
    have := digitsVal_lt l (a * 10 + (c - 48)) fun d hd => h d (List.mem_cons_of_mem _ hd)
    rw [List.foldl_cons, List.length_cons, Nat.pow_succ]
    refine Nat.lt_of_lt_of_le this ?_
    have h1 : a * 10 + (c - 48) + 1 ≤ (a + 1) * 10 := by omega
    calc (a * 10 + (c - 48) + 1) * 10 ^ l.length ≤ ((a + 1) * 10) * 10 ^ l.length := Nat.mul_le_mul_right _ h1
      _ = (a + 1) * (10 ^ l.length * 10) := by rw [Nat.mul_assoc, Nat.mul_comm 10]
end VL

/-! repr, str of values with dicts in them -/
namespace VL
open PySem PySem.Spec L2

def keyPy : Key → PyData
  | .inl i => .int i
  | .inr x => .str x
mutual
/-- data with dicts as PyData -/
def toPyD : D → Option PyData
  | .sc .non => some .none
  | .sc (.bl b) => some (.bool b)
  | .sc (.int i) => some (.int i)
  | .sc (.str x) => some (.str x)
  | .sc _ => none
  | .nd .lst ds => (toPyDL ds).map .list
  | .nd .tup ds => (toPyDL ds).map .tuple
  | .nd (.dk ks) ds => (toPyDL ds).map fun ps => .dict ((ks.map keyPy).zip ps)
  | .nd _ _ => none
def toPyDL : List D → Option (List PyData)
  | [] => some []
  | d :: ds => match toPyD d, toPyDL ds with
    | some p, some ps => some (p :: ps)
    | _, _ => none
end
section
variable {X : Cx} {pins : List (Addr × Obj)} {σ : St} {H : Hp} {s : Shared} {B : Addr → Prop}
theorem reads_key {h : Heap} {k : Key} {u : Value} (e : keyIs k u = true) : Reads h u (keyPy k) [] := by
  rcases keyIs_shape e with ⟨i, t, rfl, rfl⟩ | ⟨x, t, rfl, rfl⟩
  · exact .int i t
  · exact .str x t
theorem reads_keys {h : Heap} {P : Program} {w : World} : ∀ {es : List DictEntry} {vs : List (Key × Value)}, Pairs (mixKind P w) es vs → ReadsAll h (es.map (·.key)) (vs.map fun p => keyPy p.1) [] ∧ es.map (·.val) = vs.map (·.2)
  | _, _, .nil => ⟨.nil, rfl⟩
  | _, _, .cons hk hv hp => by
    obtain ⟨h1, h2⟩ := reads_keys (h := h) hp
    exact ⟨ReadsAll.cons (reads_key hk) h1, by rw [List.map_cons, List.map_cons, hv, h2]⟩
theorem kv_zip : ∀ {ks : List Key} {xs : List V} {vs : List (Key × Value)}, ks.length = xs.length → KV (ks.zip xs) vs → Vals xs (vs.map (·.2)) ∧ vs.map (fun p => keyPy p.1) = ks.map keyPy
  | [], [], vs, _, h => by
    cases h
    exact ⟨.nil, rfl⟩
  | k :: ks, x :: xs, vs, hl, h => by
    cases h with
    | cons h1 h2 =>
      obtain ⟨g1, g2⟩ := kv_zip (by simpa using hl) h2
      obtain ⟨e1, e2⟩ := h1
      have e1' := e1.symm
      simp only at e1'
      exact ⟨.cons e2 g1, by rw [List.map_cons, List.map_cons, g2, e1']⟩
mutual
theorem rp_reads (I : Inv X pins σ H s) : ∀ (d : D) {v : V} {u : Value} {p : PyData}, RpS X.K H B v d → toPyD d = some p → RelV v u → ∃ as, Reads s.heap u p as
  | .sc c, _, u, _, h, e, r => by
    cases h
    cases c with
    | non => cases e; cases r; exact ⟨_, .none⟩
    | bl b => cases e; cases r; exact ⟨_, .bool b⟩
    | int i => cases e; obtain ⟨t, rfl⟩ := r; exact ⟨_, .int i t⟩
    | str x => cases e; obtain ⟨t, rfl⟩ := r; exact ⟨_, .str x t⟩
    | adr a => cases e
    | ty n => cases e
  | .nd l ds, _, u, p, h, e, r => by
    cases h with
    | @nd a _ vs _ h1 h2 =>
      cases l with
      | lst =>
        obtain ⟨ps, e1, rfl⟩ := Option.map_eq_some_iff.mp (show (toPyDL ds).map PyData.list = some p from e)
        cases (show u = Value.ref a from r)
        have ha := h1.lstAt
        obtain ⟨its, rv, ⟨o, n, ho, hc, _, hd⟩, _⟩ := I.list h1.seqL
        obtain ⟨as, hr⟩ := rps_reads I ds h2 e1 rv
        exact ⟨_, Reads.list ho hc hd hr⟩
      | tup =>
        obtain ⟨ps, e1, rfl⟩ := Option.map_eq_some_iff.mp (show (toPyDL ds).map PyData.tuple = some p from e)
        cases (show u = Value.ref a from r)
        obtain ⟨its, rv, ⟨o, ho, hc, n, hd⟩, _⟩ := I.tuple h1.seqT
        obtain ⟨as, hr⟩ := rps_reads I ds h2 e1 rv
        exact ⟨_, Reads.tuple ho hc hd hr⟩
      | dk ks =>
        obtain ⟨ps, e1, rfl⟩ := Option.map_eq_some_iff.mp (show ((toPyDL ds).map fun ps => PyData.dict ((ks.map keyPy).zip ps)) = some p from e)
        cases (show u = Value.ref a from r)
        obtain ⟨hl, hr⟩ := h1.rdK
        obtain ⟨_, hs, us, kv, o, es, ep, ho, hx, hdat, _, hp, _⟩ := dk_rd I.hok hr
        obtain ⟨g1, g2⟩ := kv_zip hl kv
        obtain ⟨k1, k2⟩ := reads_keys (h := s.heap) hp
        obtain ⟨bs, hb⟩ := rps_reads I ds h2 e1 g1
        rw [g2] at k1
        rw [← k2] at hb
        have l1 : ps.length = ks.length := by
          have := Vals.length g1
          have e3 := rps_len h2 e1
          omega
        refine ⟨a :: [] ++ bs, Reads.dict ho hx.1 hdat ?_ ?_⟩
        · rw [List.map_fst_zip (by rw [List.length_map]; omega)]
          exact k1
        · rw [List.map_snd_zip (by rw [List.length_map]; omega)]
          exact hb
      | fzl => cases e
      | dt ks => cases e
      | obj C fs => cases e
      | exc _ _ _ _ => cases e
theorem rps_reads (I : Inv X pins σ H s) : ∀ (ds : List D) {vs : List V} {us : List Value} {ps : List PyData}, RpSs X.K H B vs ds → toPyDL ds = some ps → Vals vs us → ∃ as, ReadsAll s.heap us ps as
  | [], _, _, _, h, e, r => by
    cases h
    cases e
    cases r
    exact ⟨_, .nil⟩
  | d :: ds, _, _, ps, h, e, r => by
    cases h with
    | cons h1 h2 =>
      have e0 : (match toPyD d, toPyDL ds with | some p, some ps => some (p :: ps) | _, _ => none) = some ps := e
      cases e1 : toPyD d with
      | none => rw [e1] at e0; cases e0
      | some p =>
        cases e2 : toPyDL ds with
        | none => rw [e1, e2] at e0; cases e0
        | some qs =>
          rw [e1, e2] at e0
          cases e0
          cases r with
          | cons r1 r2 =>
            obtain ⟨as, q1⟩ := rp_reads I d h1 e1 r1
            obtain ⟨bs, q2⟩ := rps_reads I ds h2 e2 r2
            exact ⟨_, .cons q1 q2⟩
theorem rps_len : ∀ {ds : List D} {vs : List V} {ps : List PyData}, RpSs X.K H B vs ds → toPyDL ds = some ps → ps.length = vs.length
  | [], _, _, h, e => by
    cases h
    cases e
    rfl
  | d :: ds, _, ps, h, e => by
    cases h with
    | cons h1 h2 =>
      have e0 : (match toPyD d, toPyDL ds with | some p, some ps => some (p :: ps) | _, _ => none) = some ps := e
      cases e1 : toPyD d with
      | none => rw [e1] at e0; cases e0
      | some p =>
        cases e2 : toPyDL ds with
        | none => rw [e1, e2] at e0; cases e0
        | some qs =>
          rw [e1, e2] at e0
          cases e0
          simp [rps_len h2 e2]
end
/-- what a cell of data lists, for its text -/
inductive NdK (P : Program) (w : World) (h : Heap) (a : Addr) : PyData → Prop
  | list {o : Obj} {vs : Array Value} {n : Nat} {ps : List PyData} {as bs : List Addr} : h.get? a = some o → o.cls = .type "list" → o.data = .seq vs n → ReadsAll h vs.toList ps as →
      ReadAtMost h (PyData.depthAll ps) bs → ReprAllK P w bs h (PyData.depthAll ps) vs.toList (PyData.shownAll ps) → NdK P w h a (.list ps)
  | tuple {o : Obj} {vs : Array Value} {n : Nat} {ps : List PyData} {as bs : List Addr} : h.get? a = some o → o.cls = .type "tuple" → o.data = .seq vs n → ReadsAll h vs.toList ps as →
      ReadAtMost h (PyData.depthAll ps) bs → ReprAllK P w bs h (PyData.depthAll ps) vs.toList (PyData.shownAll ps) → NdK P w h a (.tuple ps)
  | dict {o : Obj} {es : Array DictEntry} {n : Nat} {kvs : List (PyData × PyData)} {as bs : List Addr} {b1 b2 : List Addr} : h.get? a = some o → o.cls = .type "dict" → o.data = .dict es n →
      ReadsAll h (es.toList.map (·.key)) (kvs.map (·.1)) as → ReadsAll h (es.toList.map (·.val)) (kvs.map (·.2)) bs → (a == sysModules) = false →
      ReadAtMost h (PyData.depthAll (kvs.map (·.1))) b1 → ReprAllK P w b1 h (PyData.depthAll (kvs.map (·.1))) (es.toList.map (·.key)) (PyData.shownAll (kvs.map (·.1))) →
      ReadAtMost h (PyData.depthAll (kvs.map (·.2))) b2 → ReprAllK P w b2 h (PyData.depthAll (kvs.map (·.2))) (es.toList.map (·.val)) (PyData.shownAll (kvs.map (·.2))) → NdK P w h a (.dict kvs)
theorem NdK.reads {P : Program} {w : World} {h : Heap} {a : Addr} {p : PyData} (k : NdK P w h a p) : ∃ as, Reads h (.ref a) p as := by
  cases k with
  | list h1 h2 h3 h4 _ _ => exact ⟨_, .list h1 h2 h3 h4⟩
  | tuple h1 h2 h3 h4 _ _ => exact ⟨_, .tuple h1 h2 h3 h4⟩
  | dict h1 h2 h3 h4 h5 _ _ _ _ _ => exact ⟨_, .dict h1 h2 h3 h4 h5⟩
theorem NdK.repr {P : Program} {w : World} {h : Heap} {a : Addr} {p : PyData} (k : NdK P w h a p) : ∃ bs, ReadAtMost h p.depth bs ∧ ReprK P w bs h p.depth (.ref a) p.shown := by
  cases k with
  | @list o vs n xs as bs h1 h2 h3 h4 hb hk =>
    have r : Reads h (.ref a) (.list xs) _ := .list h1 h2 h3 h4
    have hna : a ∉ bs := not_mem_of_deeper r (by simp only [PyData.depth]; omega) hb
    refine ⟨a :: bs, ReadAtMost.cons r (by simp only [PyData.depth]; omega) hb, ?_⟩
    simp only [PyData.depth, PyData.shown]
    obtain ⟨l⟩ := vs
    cases l with
    | nil =>
      have h4' : ReadsAll h [] xs _ := h4
      cases h4'
      simp only [PyData.shownAll, listText_nil]
      exact ReprK.listEmpty h1 h2 h3
    | cons x l => exact ReprK.list h1 h2 h3 hna (by simpa using hk.length_eq) (fun i y e => hk.item i y (by simpa using e))
  | @tuple o vs n xs as bs h1 h2 h3 h4 hb hk =>
    have r : Reads h (.ref a) (.tuple xs) _ := .tuple h1 h2 h3 h4
    have hna : a ∉ bs := not_mem_of_deeper r (by simp only [PyData.depth]; omega) hb
    refine ⟨a :: bs, ReadAtMost.cons r (by simp only [PyData.depth]; omega) hb, ?_⟩
    simp only [PyData.depth, PyData.shown]
    exact ReprK.tuple h1 h2 h3 hna hk
  | @dict o es n kvs as bs b1 b2 h1 h2 h3 h4 h5 hsys hb1 k1 hb2 k2 =>
    have r : Reads h (.ref a) (.dict kvs) _ := .dict h1 h2 h3 h4 h5
    have hb : ReadAtMost h (PyData.depthKv kvs) (b1 ++ b2) := (hb1.mono (PyData.depthAll_keys_le kvs)).append (hb2.mono (PyData.depthAll_vals_le kvs))
    have hna : a ∉ b1 ++ b2 := not_mem_of_deeper r (by simp only [PyData.depth]; omega) hb
    refine ⟨a :: (b1 ++ b2), ReadAtMost.cons r (by simp only [PyData.depth]; omega) hb, ?_⟩
    simp only [PyData.depth, PyData.shown, PyData.shownKv_eq]
    exact ReprK.dict h1 h2 h3 hsys hna (ReprEntriesK.of_two es.toList _ _
      (k1.more_le (fun b hb => List.mem_append_left _ hb) (PyData.depthAll_keys_le kvs)) (k2.more_le (fun b hb => List.mem_append_right _ hb) (PyData.depthAll_vals_le kvs)))
theorem NdK.shows {P : Program} {w : World} {h : Heap} {a : Addr} {p : PyData} (k : NdK P w h a p) (hsz : p.shown.length ≤ sizeLine) : ∃ T idr, ShowsBy P w h a p T idr := by
  cases k with
  | @list o vs n xs as bs h1 h2 h3 h4 hb hk =>
    have hz' : (listText (PyData.shownAll xs)).length ≤ sizeLine := by simpa only [PyData.shown] using hsz
    have hna : a ∉ bs := not_mem_of_deeper (.list h1 h2 h3 h4) (by simp only [PyData.depth]; omega) hb
    refine ⟨"list", "list.__repr__", F.slot_list_repr.toG, F.slot_list_str, F.slot_list_format, fun s hk0 => ⟨o, hk0 _ _ h1, h2⟩, fun A E s Q hg hu hk0 hQ => ?_⟩
    simp only [PyData.depth] at hu
    simp only [PyData.shown] at hQ
    obtain ⟨l⟩ := vs
    cases l with
    | nil =>
      have h4' : ReadsAll h [] xs _ := h4
      cases h4'
      simp only [PyData.shownAll, listText_nil] at hQ
      exact call_list_repr_empty ⟨o, hk0 _ _ h1, h2⟩ (hk0 _ _ h1) h3 (hQ s.heap _ _ fun _ _ e => e)
    | cons x l =>
      exact call_list_reprK h1 h2 h3 hna (by simpa using hk.length_eq) (fun i y e => hk.item i y (by simpa using e)) hg (fun b _ => Clear.nil b) hu hk0 hQ hz'
  | @tuple o vs n xs as bs h1 h2 h3 h4 hb hk =>
    have hz' : (tupleText (PyData.shownAll xs)).length ≤ sizeLine := by simpa only [PyData.shown] using hsz
    have hna : a ∉ bs := not_mem_of_deeper (.tuple h1 h2 h3 h4) (by simp only [PyData.depth]; omega) hb
    refine ⟨"tuple", "tuple.__repr__", F.slot_tuple_repr, F.slot_tuple_str, F.slot_tuple_format, fun s hk0 => ⟨o, hk0 _ _ h1, h2⟩, fun A E s Q hg hu hk0 hQ => ?_⟩
    simp only [PyData.depth] at hu
    simp only [PyData.shown] at hQ
    exact call_tuple_reprK h1 h2 h3 hna hk hg (fun b _ => Clear.nil b) hu hk0 hQ hz'
  | @dict o es n kvs as bs b1 b2 h1 h2 h3 h4 h5 hsys hb1 k1 hb2 k2 =>
    have hz' : (dictText (PyData.shownKv kvs)).length ≤ sizeLine := by simpa only [PyData.shown] using hsz
    have hb : ReadAtMost h (PyData.depthKv kvs) (b1 ++ b2) := (hb1.mono (PyData.depthAll_keys_le kvs)).append (hb2.mono (PyData.depthAll_vals_le kvs))
    have hna : a ∉ b1 ++ b2 := not_mem_of_deeper (.dict h1 h2 h3 h4 h5) (by simp only [PyData.depth]; omega) hb
    refine ⟨"dict", "dict.__repr__", F.slot_dict_repr, F.slot_dict_str, F.slot_dict_format, fun s hk0 => ⟨o, hk0 _ _ h1, h2⟩, fun A E s Q hg hu hk0 hQ => ?_⟩
    simp only [PyData.depth] at hu
    simp only [PyData.shown, PyData.shownKv_eq] at hQ
    exact call_dict_reprK h1 h2 h3 hsys hna (ReprEntriesK.of_two es.toList _ _
      (k1.more_le (fun b hb => List.mem_append_left _ hb) (PyData.depthAll_keys_le kvs)) (k2.more_le (fun b hb => List.mem_append_right _ hb) (PyData.depthAll_vals_le kvs))) hg (fun b _ => Clear.nil b) hu hk0 hQ (by rw [← PyData.shownKv_eq]; exact hz')
theorem shown_key_le {t : Str} {kvs : List (PyData × PyData)} (hz : (PyData.shown (.dict kvs)).length ≤ sizeLine) (ht : t ∈ PyData.shownAll (kvs.map (·.1))) : t.length ≤ sizeLine := by
  have hz' : (dictText (PyData.shownKv kvs)).length ≤ sizeLine := by simpa only [PyData.shown] using hz
  obtain ⟨p, hp, hl⟩ := PyData.shownKv_key_le kvs t ht
  exact Nat.le_trans hl (Nat.le_trans (dictText_mem_le hp) hz')
theorem shown_val_le {t : Str} {kvs : List (PyData × PyData)} (hz : (PyData.shown (.dict kvs)).length ≤ sizeLine) (ht : t ∈ PyData.shownAll (kvs.map (·.2))) : t.length ≤ sizeLine := by
  have hz' : (dictText (PyData.shownKv kvs)).length ≤ sizeLine := by simpa only [PyData.shown] using hz
  obtain ⟨p, hp, hl⟩ := PyData.shownKv_val_le kvs t ht
  exact Nat.le_trans hl (Nat.le_trans (dictText_mem_le hp) hz')
theorem rps_cons {P : Program} {w : World} {h : Heap} {d : PyData} {ds : List PyData} {v : Value} {vs : List Value} {b1 b2 : List Addr} (hb1 : ReadAtMost h d.depth b1) (k1 : ReprK P w b1 h d.depth v d.shown)
    (hb2 : ReadAtMost h (PyData.depthAll ds) b2) (k2 : ReprAllK P w b2 h (PyData.depthAll ds) vs (PyData.shownAll ds)) :
    ∃ bs, ReadAtMost h (PyData.depthAll (d :: ds)) bs ∧ ReprAllK P w bs h (PyData.depthAll (d :: ds)) (v :: vs) (PyData.shownAll (d :: ds)) := by
  refine ⟨b1 ++ b2, ?_, ?_⟩
  · intro b hm
    simp only [PyData.depthAll]
    rcases List.mem_append.mp hm with hm | hm
    · obtain ⟨d', as', r', hd'⟩ := hb1 b hm
      exact ⟨d', as', r', Nat.le_trans hd' (Nat.le_max_left _ _)⟩
    · obtain ⟨d', as', r', hd'⟩ := hb2 b hm
      exact ⟨d', as', r', Nat.le_trans hd' (Nat.le_max_right _ _)⟩
  · simp only [PyData.depthAll, PyData.shownAll]
    exact .cons ((k1.more fun b hb => List.mem_append_left _ hb).level_le (Nat.le_max_left _ _)) (k2.more_le (fun b hb => List.mem_append_right _ hb) (Nat.le_max_right _ _))
theorem keys_noDict : ∀ (ks : List Key) , PyData.hasDictAll (ks.map keyPy) = false
  | [] => by simp [PyData.hasDictAll]
  | .inl i :: ks => by simp [PyData.hasDictAll, PyData.hasDict, keyPy, keys_noDict ks]
  | .inr i :: ks => by simp [PyData.hasDictAll, PyData.hasDict, keyPy, keys_noDict ks]
mutual
theorem rp_nd (P1 : Program) (w1 : World) (I : Inv X pins σ H s) : ∀ (l : Lab) (ds : List D) {a : Addr} {vs : List V} {p : PyData}, ShAt X.K H B l a vs → RpSs X.K H B vs ds → toPyD (.nd l ds) = some p → p.showable = true → p.shown.length ≤ sizeLine → NdK P1 w1 s.heap a p
  | .lst, ds, a, vs, p, h1, h2, e, hs, hz => by
    obtain ⟨ps, e1, rfl⟩ := Option.map_eq_some_iff.mp (show (toPyDL ds).map PyData.list = some p from e)
    obtain ⟨its, rv, ⟨o, n, ho, hc, _, hd⟩, _⟩ := I.list h1.seqL
    obtain ⟨as, hr⟩ := rps_reads I ds h2 e1 rv
    have hz' : (listText (PyData.shownAll ps)).length ≤ sizeLine := by simpa only [PyData.shown] using hz
    obtain ⟨bs, g1, g2⟩ := rps_repr P1 w1 I ds h2 e1 rv (by simpa [PyData.showable] using hs) fun t ht => Nat.le_trans (listText_mem_le ht) hz'
    exact .list ho hc hd hr g1 g2
  | .tup, ds, a, vs, p, h1, h2, e, hs, hz => by
    obtain ⟨ps, e1, rfl⟩ := Option.map_eq_some_iff.mp (show (toPyDL ds).map PyData.tuple = some p from e)
    obtain ⟨its, rv, ⟨o, ho, hc, n, hd⟩, _⟩ := I.tuple h1.seqT
    obtain ⟨as, hr⟩ := rps_reads I ds h2 e1 rv
    have hz' : (tupleText (PyData.shownAll ps)).length ≤ sizeLine := by simpa only [PyData.shown] using hz
    obtain ⟨bs, g1, g2⟩ := rps_repr P1 w1 I ds h2 e1 rv (by simpa [PyData.showable] using hs) fun t ht => Nat.le_trans (tupleText_mem_le ht) hz'
    exact .tuple ho hc hd hr g1 g2
  | .dk ks, ds, a, vs, p, h1, h2, e, hs, hz => by
    obtain ⟨ps, e1, rfl⟩ := Option.map_eq_some_iff.mp (show ((toPyDL ds).map fun ps => PyData.dict ((ks.map keyPy).zip ps)) = some p from e)
    obtain ⟨hl, hr⟩ := h1.rdK
    obtain ⟨_, hsy, us, kv, o, es, ep, ho, hx, hdat, _, hp, _⟩ := dk_rd I.hok hr
    obtain ⟨g1, g2⟩ := kv_zip hl kv
    obtain ⟨k1, k2⟩ := reads_keys (h := s.heap) hp
    obtain ⟨bs, hb⟩ := rps_reads I ds h2 e1 g1
    have l1 : ps.length = ks.length := by
      have := Vals.length g1
      have e3 := rps_len (pins := pins) (σ := σ) (s := s) h2 e1
      omega
    obtain ⟨hs1, hs2⟩ := PyData.showableKv_split _ (show PyData.showableKv ((ks.map keyPy).zip ps) = true by simpa [PyData.showable] using hs)
    have f1 : ((ks.map keyPy).zip ps).map (·.1) = ks.map keyPy := List.map_fst_zip (by rw [List.length_map]; omega)
    have f2 : ((ks.map keyPy).zip ps).map (·.2) = ps := List.map_snd_zip (by rw [List.length_map]; omega)
    obtain ⟨bs', q1, q2⟩ := rps_repr P1 w1 I ds h2 e1 g1 (by rw [f2] at hs2; exact hs2) fun t ht => shown_val_le hz (by rw [f2]; exact ht)
    rw [g2] at k1
    rw [← k2] at hb q2
    have kz : ∀ t ∈ PyData.shownAll (ks.map keyPy), t.length ≤ sizeLine := fun t ht => shown_key_le hz (by rw [f1]; exact ht)
    obtain ⟨cs, c1, c2⟩ := ReprAllK.of_readsAll (prog := P1) (w := w1) k1 (by rw [f1] at hs1; exact hs1) (fun q => by rw [keys_noDict] at q; cases q) kz
    refine .dict (as := []) (bs := bs) (b1 := cs) (b2 := bs') ho hx.1 hdat ?_ ?_ hsy ?_ ?_ ?_ ?_ <;> first | (rw [f1]; assumption) | (rw [f2]; assumption)
  | .fzl, _, _, _, _, _, _, e, _, _ => by cases e
  | .dt _, _, _, _, _, _, _, e, _, _ => by cases e
  | .obj _ _, _, _, _, _, _, _, e, _, _ => by cases e
  | .exc _ _ _ _, _, _, _, _, _, _, e, _, _ => by cases e
theorem rps_repr (P1 : Program) (w1 : World) (I : Inv X pins σ H s) : ∀ (ds : List D) {vs : List V} {us : List Value} {ps : List PyData}, RpSs X.K H B vs ds → toPyDL ds = some ps → Vals vs us → PyData.showableAll ps = true → (∀ t ∈ PyData.shownAll ps, t.length ≤ sizeLine) →
    ∃ bs, ReadAtMost s.heap (PyData.depthAll ps) bs ∧ ReprAllK P1 w1 bs s.heap (PyData.depthAll ps) us (PyData.shownAll ps)
  | [], _, _, _, h, e, r, _, _ => by
    cases h
    cases e
    cases r
    exact ⟨[], (fun _ h => nomatch h), by simp only [PyData.shownAll]; exact .nil⟩
  | .sc c :: ds, _, _, ps, h, e, r, hs, hz => by
    cases h with
    | cons h1 h2 =>
      have e0 : (match toPyD (.sc c), toPyDL ds with | some p, some ps => some (p :: ps) | _, _ => none) = some ps := e
      cases e1 : toPyD (.sc c) with
      | none => rw [e1] at e0; cases e0
      | some p =>
        cases e2 : toPyDL ds with
        | none => rw [e1, e2] at e0; cases e0
        | some qs =>
          rw [e1, e2] at e0
          cases e0
          cases r with
          | cons r1 r2 =>
            have hs' : p.showable = true ∧ PyData.showableAll qs = true := by simpa [PyData.showableAll] using hs
            have z1 : p.shown.length ≤ sizeLine := hz _ (by simp only [PyData.shownAll]; exact List.mem_cons_self ..)
            obtain ⟨b2, hb2, k2⟩ := rps_repr P1 w1 I ds h2 e2 r2 hs'.2 fun t ht => hz t (by simp only [PyData.shownAll]; exact List.mem_cons_of_mem _ ht)
            obtain ⟨as, q1⟩ := rp_reads I (.sc c) h1 e1 r1
            have hd : p.hasDict = false := by
              cases c <;> first | (cases e1; simp [PyData.hasDict]) | cases e1
            obtain ⟨b1, hb1, k1⟩ := ReprK.of_reads (prog := P1) (w := w1) q1 hs'.1 (fun q => by rw [hd] at q; cases q) z1
            exact rps_cons hb1 k1 hb2 k2
  | .nd l cs :: ds, _, _, ps, h, e, r, hs, hz => by
    cases h with
    | cons h1 h2 =>
      have e0 : (match toPyD (.nd l cs), toPyDL ds with | some p, some ps => some (p :: ps) | _, _ => none) = some ps := e
      cases e1 : toPyD (.nd l cs) with
      | none => rw [e1] at e0; cases e0
      | some p =>
        cases e2 : toPyDL ds with
        | none => rw [e1, e2] at e0; cases e0
        | some qs =>
          rw [e1, e2] at e0
          cases e0
          cases r with
          | cons r1 r2 =>
            have hs' : p.showable = true ∧ PyData.showableAll qs = true := by simpa [PyData.showableAll] using hs
            have z1 : p.shown.length ≤ sizeLine := hz _ (by simp only [PyData.shownAll]; exact List.mem_cons_self ..)
            obtain ⟨b2, hb2, k2⟩ := rps_repr P1 w1 I ds h2 e2 r2 hs'.2 fun t ht => hz t (by simp only [PyData.shownAll]; exact List.mem_cons_of_mem _ ht)
            cases h1 with
            | @nd a _ ws _ g1 g2 =>
              rename_i ux _
              cases (show ux = Value.ref a from r1)
              obtain ⟨b1, hb1, k1⟩ := NdK.repr (rp_nd P1 w1 I l cs g1 g2 e1 hs'.1 z1)
              exact rps_cons hb1 k1 hb2 k2
end
end
def rReprD (K : PySem.W.Frag) : List V → Hp → L2.VK → Prop := fun xs H Q => ∃ B x d p, xs = [x] ∧ RpS K H B x d ∧ toPyD d = some p ∧ (p.showable = true ∧ p.depth ≤ 64 ∧ p.shown.length ≤ sizeLine) ∧ Q (.str p.shown) H
theorem Room.u200 {k : Nat} {A : Around} (h : Room k A) : A.units + 200 < cLine := by
  have := h.un
  omega
theorem call_reprD {X : Cx} (hu : X.A.units + 200 < cLine) (g : X.A.guards = some []) : CallR X (.builtin "repr") (rReprD X.K) := by
  intro pins s σ H xs us Q I rv h
  obtain ⟨B, x, d, p, rfl, hd, hp, ⟨h1, h3, h4⟩, q⟩ := h
  obtain ⟨u, rfl, ru⟩ := rv.one
  cases hd with
  | sc c =>
    cases c with
    | non => cases hp; cases (show u = Value.none from ru); exact PySem.P.repr_of_none ⟨.str _, H, I.tok _, ⟨_, rfl⟩, q⟩
    | bl b => cases hp; cases (show u = Value.bool b from ru); exact PySem.P.repr_of_bool ⟨.str _, H, I.tok _, ⟨_, rfl⟩, q⟩
    | int i =>
      cases hp
      obtain ⟨t, e⟩ := (show ∃ t, u = Value.int i t from ru)
      subst e
      refine PySem.P.repr_of_int ?_ ⟨.str _, H, I.tok _, ⟨_, rfl⟩, q⟩
      exact of_decide_eq_true h1
    | str z =>
      cases hp
      obtain ⟨t, e⟩ := (show ∃ t, u = Value.str z t from ru)
      subst e
      exact PySem.P.repr_of_str ⟨.str _, H, I.tok _, ⟨_, rfl⟩, q⟩ h4
    | adr a => cases hp
    | ty n => cases hp
  | @nd a l vs ds g1 g2 =>
    cases (show u = Value.ref a from ru)
    obtain ⟨T, idr, S⟩ := (rp_nd X.prog X.w I l ds g1 g2 hp h1 h4).shows h4
    exact call_repr_slot (by omega) (S.typeIs s fun _ _ e => e) S.slotRepr (S.call X.A.in1 X.xe s _ g (by show X.A.units + 1 + p.depth < cLine; omega) (fun _ _ e => e) fun h' u tk hk => ⟨_, _, rfl, ⟨.str p.shown, H, I.kept (t' := tk) hk, ⟨u, rfl⟩, q⟩⟩)
def shwD (d : D) (k : O → Prop) : Prop := match toPyD d with
  | some p => (p.showable = true ∧ p.depth ≤ 60 ∧ p.shown.length ≤ sizeLine) ∧ k (.sh (.sc (.str p.shown)))
  | none => False
def gReprD (a : O) (k : O → Prop) : Prop := vw a fun d => shwD d k
theorem sr_reprD {K : PySem.W.Frag} : Srv K (rReprD K) (gn1 gReprD) := srv1 (by
  intro S AA H x a xs us k Q r hQ h
  obtain ⟨d, e1, h⟩ := vw_of h
  unfold shwD at h
  cases et : toPyD d with
  | none => rw [et] at h; exact h.elim
  | some p =>
    rw [et] at h
    exact ⟨_, x, d, p, rfl, r.read1 e1, et, ⟨h.1.1, by have := h.1.2.1; omega, h.1.2.2⟩, hQ _ H _ h.2 (RelA.resS (.str _) (ts := [_]) (us := [_]) r rfl)⟩)
/-! str of a list, a tuple, a dict; of a text, an int -/
def rStrNd (K : PySem.W.Frag) : List V → Hp → L2.VK → Prop := fun xs H Q => ∃ B a l ds p, xs = [.ref a] ∧ RpS K H B (.ref a) (.nd l ds) ∧ toPyD (.nd l ds) = some p ∧ (p.showable = true ∧ p.depth ≤ 60 ∧ p.shown.length ≤ sizeLine) ∧ Q (.str p.shown) H
theorem call_strNd {X : Cx} (hu : X.A.units + 200 < cLine) (g : X.A.guards = some []) : CallR X (.type "str") (rStrNd X.K) := by
  intro pins s σ H xs us Q I rv h
  obtain ⟨B, a, l, ds, p, rfl, hd, hp, ⟨h1, h3, h4⟩, q⟩ := h
  obtain ⟨u, rfl, ru⟩ := rv.one
  cases (show u = Value.ref a from ru)
  have nd : ∀ P1 w1, NdK P1 w1 s.heap a p := by
    generalize ev : V.ref a = v at hd
    generalize ed : D.nd l ds = d at hd
    cases hd with
    | sc c => cases ed
    | nd g1 g2 =>
      cases ed
      cases ev
      exact fun P1 w1 => rp_nd P1 w1 I l ds g1 g2 hp h1 h4
  refine callType_new F.called_str (by decide) (F.typeCall_str_1 _) (F.newCall_str_1 _) (fun obj => F.args_object_init_2 obj _) F.entry_str_new
    (meets_str_new (S := fun A' R s' => A'.guards = some [] ∧ A'.units + (p.depth + 2) < cLine ∧ (∀ b o, s.heap.get? b = some o → s'.heap.get? b = some o) ∧
      ∀ h' u tk, (∀ b o, s'.heap.get? b = some o → h'.get? b = some o) → R (.ok (.ret (.str p.shown u))) { s' with heap := h', toks := tk }) ?_) ?_
  · intro prog' w' A' R s' h
    obtain ⟨T, idr, S⟩ := (nd prog' w').shows h4
    exact wpAny_strOf_slot rfl (by show A'.units + 1 + 1 < cLine; have := h.2.1; omega) (S.typeIs s' h.2.2.1) S.slotStr S.slotRepr (S.call A'.in1.in1 _ s' _ h.1 (by show A'.units + 1 + 1 + p.depth < cLine; have := h.2.1; omega) h.2.2.1 fun h' u tk hk => ⟨_, _, rfl, h.2.2.2 h' u tk hk⟩)
  · exact ⟨g, by show X.A.units + 1 + (p.depth + 2) < cLine; omega, fun _ _ e => e, fun h' u tk hk => ⟨typeIs_str _ _ _, ⟨.str p.shown, H, I.kept (t' := tk) hk, ⟨u, rfl⟩, q⟩⟩⟩
def gStrD (a : O) (k : O → Prop) : Prop := vw a fun d => match d with
  | .sc (.int i) => i.natAbs.log2 < 1920 ∧ k (.sh (.sc (.str (toString i))))
  | .sc (.str x) => k (.sh (.sc (.str x)))
  | .nd l ds => shwD (.nd l ds) k
  | _ => False
def rStrD (K : PySem.W.Frag) : List V → Hp → L2.VK → Prop := fun xs H Q => rStr1 xs H Q ∨ rStrNd K xs H Q
theorem call_strD {X : Cx} (hu : X.A.units + 200 < cLine) (g : X.A.guards = some []) : CallR X (.type "str") (rStrD X.K) := CallR.or call_str1U (call_strNd hu g)
theorem sr_strD {K : PySem.W.Frag} : Srv K (rStrD K) (gn1 gStrD) := srv1 (by
  intro S AA H x a xs us k Q r hQ h
  obtain ⟨d, e1, h⟩ := vw_of h
  have rd := r.read1 e1
  split at h
  · exact .inl (.inl ⟨_, by rw [rd.scv]; rfl, h.1, hQ _ H _ h.2 (RelA.resS (.str _) (ts := [_]) (us := [_]) r rfl)⟩)
  · exact .inl (.inr ⟨_, by rw [rd.scv]; rfl, hQ _ H _ h (RelA.resS (.str _) (ts := [_]) (us := [_]) r rfl)⟩)
  · rename_i l ds
    unfold shwD at h
    cases et : toPyD (.nd l ds) with
    | none => rw [et] at h; exact h.elim
    | some p =>
      rw [et] at h
      obtain ⟨a', rfl⟩ : ∃ a', x = .ref a' := by
        generalize ed : D.nd l ds = d at rd
        cases rd with
        | sc c => cases ed
        | nd _ _ => exact ⟨_, rfl⟩
      exact .inr ⟨_, a', l, ds, p, rfl, rd, et, h.1, hQ _ H _ h.2 (RelA.resS (.str _) (ts := [_]) (us := [_]) r rfl)⟩
  · exact h.elim)
end VL

namespace VL
open PySem PySem.Spec L2

/-! ### tuple(x) -/
def gTuple1 (a : O) (k : O → Prop) : Prop := match a with
  | .sh (.nd .tup ds) => k (.sh (.nd .tup ds))
  | a => match kids a with
    | some (.lst, ds) => k (.sh (.nd .tup ds))
    | some (.fzl, ds) => k (.sh (.nd .tup ds))
    | _ => False
theorem call_tuple1 {X : Cx} : CallR X (.type "tuple") (fun xs H Q => ∃ x, xs = [x] ∧ kTup X.K x H Q) := by
  intro pins s σ H xs us Q I rv h
  obtain ⟨x, rfl, h⟩ := h
  obtain ⟨u, rfl, ru⟩ := rv.one
  exact rl_tuple pins s σ H x u Q I ru h
theorem sr_tuple1 {K : PySem.W.Frag} : Srv K (fun xs H Q => ∃ x, xs = [x] ∧ kTup K x H Q) (gn1 gTuple1) := srv1 (by
  intro S AA H x a xs us k Q r hQ h
  have new : ∀ {p : Addr} {vs : List V} {ds : List D}, RpSs K H (fun a => S a ∨ a ∈ AA) vs ds → k (.sh (.nd .tup ds)) → ∀ q, H q = none → Q (.ref q) (upd H q (.tup vs)) := fun {p vs ds} c1 h q hq => by
    obtain ⟨A1, r1, e1, s1⟩ := RelA.resT (l := .tup) (ts := [some x]) (us := [a]) r rfl hq rfl c1
    exact hQ _ _ _ h ⟨A1, r1, e1, s1⟩
  unfold gTuple1 at h
  split at h
  next ds =>
    obtain ⟨v, A, e1, e2⟩ := r.get (i := 0) rfl
    cases e1
    cases e2 with
    | sh q =>
      cases q with
      | @nd p _ vs _ q1 q2 =>
        refine ⟨_, rfl, .inr ⟨p, vs, rfl, q1.seqT, ?_⟩⟩
        obtain ⟨A1, r1, s1⟩ := r.drop1
        exact hQ _ H _ h ⟨A1, r1.push (.sh ((RpS.nd q1 q2).keep (Keep.here fun b z => z.imp_right (s1 b)))), Ext.refl.sub s1, Same.refl H⟩
  next =>
    split at h
    next ds hk =>
      obtain ⟨p, vs, e1, s1, c1⟩ := r.kidsAt (i := 0) rfl rfl hk
      cases e1
      exact ⟨_, rfl, .inl ⟨p, vs, rfl, s1.seqL, new (p := p) c1 h⟩⟩
    next ds hk =>
      obtain ⟨p, vs, e1, s1, c1⟩ := r.kidsAt (i := 0) rfl rfl hk
      cases e1
      exact ⟨_, rfl, .inl ⟨p, vs, rfl, s1.seqF, new (p := p) c1 h⟩⟩
    · exact h.elim)
/-! ### xs[::-1] -/
def gRevL (a : O) (k : O → Prop) : Prop := match kids a with
  | some (.lst, ds) => k (.ow .lst ds.reverse)
  | some (.fzl, ds) => k (.ow .lst ds.reverse)
  | _ => False
theorem RpSs.rev {K : PySem.W.Frag} {H : Hp} {B : Addr → Prop} : ∀ {vs : List V} {ds : List D}, RpSs K H B vs ds → RpSs K H B vs.reverse ds.reverse
  | _, _, .nil => .nil
  | _, _, .cons h1 h2 => by
    rw [List.reverse_cons, List.reverse_cons]
    exact RpSs.app (RpSs.rev h2) (.cons h1 .nil)
def vRevL (re : VE) : VE := fun ρ φ ε => re ρ (fun o ρ1 => gRevL o fun o' => φ o' ρ1) ε
theorem ev_revL {X : Cx} {W : WX} {p : Bool} {e : Expr} {k : Nat} {p1 p2 p3 pos : Pos} {re : VE} (he : Ev X W p e re) : Ev X W p (.Subscript e (.Slice none none (some (.UnaryOp .USub (.Constant (.int 1) k p1) p2)) p3) pos) (vRevL re) := by
  obtain ⟨t, ht, st⟩ := he.ex
  refine ⟨_, pe_revL ht, fun S AA H σ ρ φ ε Q r l hQ h => ?_⟩
  refine st S AA H σ ρ _ ε _ r l (fun v H1 o ρ1 A1 h1 r1 x1 q1 => ?_) h
  have new : ∀ {vs : List V} {ds : List D}, RpSs X.K H1 (fun a => S a ∨ a ∈ A1) vs ds → φ (.ow .lst ds.reverse) ρ1 → ∀ q, H1 q = none → Q (.ref q) (upd H1 q (.lst vs.reverse)) := fun {vs ds} c1 h q hq => by
    obtain ⟨A2, r2, e2, s2⟩ := RelA.resO (l := .lst) (ts := [some v]) (us := [o]) r1 rfl hq rfl c1.rev
    exact hQ _ _ _ _ _ h r2 (x1.trans e2) fun e => ⟨(q1 e).1, Same.trans (q1 e).2 s2⟩
  unfold gRevL at h1
  split at h1
  next ds hk =>
    obtain ⟨p, vs, e1, s1, c1⟩ := r1.kidsAt (i := 0) rfl rfl hk
    cases e1
    exact ⟨p, vs, rfl, s1.seqL, new c1 h1⟩
  next ds hk =>
    obtain ⟨p, vs, e1, s1, c1⟩ := r1.kidsAt (i := 0) rfl rfl hk
    cases e1
    exact ⟨p, vs, rfl, s1.seqF, new c1 h1⟩
  · exact h1.elim
/-! ### isinstance(e, C), isinstance(e, (C, ..)), e the caught exception -/
def clsOf : Sc → Option Value
  | .adr C => some (.ref C)
  | .ty n => some (.type n)
  | _ => none
def clsAll : List D → Option (List Value)
  | [] => some []
  | .sc s :: ds => match clsOf s, clsAll ds with
    | some c, some cs => some (c :: cs)
    | _, _ => none
  | _ :: _ => none
theorem clsOf_v {s : Sc} {c : Value} (h : clsOf s = some c) : ClsV s.v c := by
  cases s <;> first | (cases h; exact .own _) | (cases h; exact .ty _) | cases h
theorem clsAll_v {K : PySem.W.Frag} {H : Hp} {B : Addr → Prop} : ∀ {ds : List D} {vs : List V} {cs : List Value}, RpSs K H B vs ds → clsAll ds = some cs → Paired ClsV vs cs
  | [], _, _, h, e => by
    cases h
    cases e
    exact .nil
  | .sc s :: ds, _, cs, h, e => by
    cases h with
    | cons h1 h2 =>
      have e0 : (match clsOf s, clsAll ds with | some c, some cs => some (c :: cs) | _, _ => none) = some cs := e
      cases e1 : clsOf s with
      | none => rw [e1] at e0; cases e0
      | some c =>
        cases e2 : clsAll ds with
        | none => rw [e1, e2] at e0; cases e0
        | some qs =>
          rw [e1, e2] at e0
          cases e0
          cases h1
          exact .cons (clsOf_v e1) (clsAll_v h2 e2)
  | .nd _ _ :: _, _, _, _, e => by cases e
def gIsE (K : PySem.W.Frag) (D a : Addr) (x c : O) (k : O → Prop) : Prop := x = .pin (.ref a) ∧ match c with
  | .sh (.sc s) => ∃ cv b, clsOf s = some cv ∧ PySem.W.kitOne K (.ref D) cv = some b ∧ k (.sh (.sc (.bl b)))
  | .sh (.nd .tup ds) => ∃ cs b, clsAll ds = some cs ∧ PySem.W.kitAny K (.ref D) cs = some b ∧ k (.sh (.sc (.bl b)))
  | _ => False
def rIsET (K : PySem.W.Frag) (D a : Addr) : List V → Hp → L2.VK → Prop := fun xs H Q => ∃ (tp : Addr) (cs : List V) (us : List Value) (b : Bool), xs = [.ref a, .ref tp] ∧ (SqT K H tp cs) ∧ Paired ClsV cs us ∧ PySem.W.kitAny K (.ref D) us = some b ∧ Q (.bl b) H
theorem call_isET {X : Cx} {a D : Addr} {oe : Obj} {pn : List (Addr × Obj)} (C : ExcC X.K D) (hz : Zc (.ref D) none oe) (hf : ∃ vs, oe.data = .fields vs) : CallR (X.suite a ((a, oe) :: pn)) (.builtin "isinstance") (rIsET X.K D a) := by
  intro pins s σ H xs us Q I r h
  obtain ⟨tp, cs, ws, b, rfl, hT, k, e, q⟩ := h
  obtain ⟨u1, u2, rfl, r1, r2⟩ := vals2 r
  cases (show u1 = Value.ref a from r1)
  cases (show u2 = Value.ref tp from r2)
  obtain ⟨hget, _⟩ := I.pin (a, oe) (List.mem_append.mpr (.inl List.mem_cons_self))
  obtain ⟨vs, hv⟩ := hf
  have J : PySem.W.InstAt s.heap a oe D none := by
    obtain ⟨oc, od, oda, osl⟩ := oe
    obtain ⟨h1, h2⟩ := hz
    dsimp only at h1 h2 hv
    subst h1 h2 hv
    exact ⟨hget, rfl, rfl, trivial⟩
  obtain ⟨its, rv, ⟨o, h1, h2, n, h3⟩, _⟩ := I.tuple hT
  have e3 := ClsV.all k rv
  subst e3
  obtain ⟨oc, od, dt, sl⟩ := o
  simp only at h2 h3
  subst h2 h3
  exact PySem.W.kia_tup (PySem.W.handS_kitx_exc C.hg C.hk C.hs C.hd C.ha C.hn C.ht C.hm) I.kIn J h1 e (fun z => nomatch z) fun tk => ⟨.bl b, H, I.kept (t' := tk) fun _ _ z => z, rfl, q⟩
def rIsEU (K : PySem.W.Frag) (D a : Addr) : List V → Hp → L2.VK → Prop := fun xs H Q => rIsE K D a xs H Q ∨ rIsET K D a xs H Q
theorem call_isEU {X : Cx} {a D : Addr} {oe : Obj} {pn : List (Addr × Obj)} (C : ExcC X.K D) (hz : Zc (.ref D) none oe) (hf : ∃ vs, oe.data = .fields vs) : CallR (X.suite a ((a, oe) :: pn)) (.builtin "isinstance") (rIsEU X.K D a) :=
  CallR.or (call_isE C hz hf) (call_isET C hz hf)
theorem sr_isE {K : PySem.W.Frag} {D a : Addr} : Srv K (rIsEU K D a) (gn2 (gIsE K D a)) := srv2 (by
  intro S AA H x y o1 o2 xs us k Q r hQ h
  obtain ⟨rfl, h⟩ := h
  have hx : x = .ref a := by
    obtain ⟨v, A, e1, e2⟩ := r.get (i := 0) rfl
    cases e1
    cases e2
    rfl
  subst hx
  obtain ⟨v, A, e1, e2⟩ := r.get (i := 1) rfl
  cases e1
  have res : ∀ b, k (.sh (.sc (.bl b))) → Q (.bl b) H := fun b hk => hQ _ H _ hk (RelA.resS (.bl _) (ts := [_, _]) (us := [_, _]) r rfl)
  split at h
  · rename_i s
    obtain ⟨cv, b, e, e3, hk⟩ := h
    cases e2 with
    | sh q =>
      cases q
      exact .inl ⟨s.v, cv, b, rfl, fun u hu => (clsOf_v e).eq hu, e3, res b hk⟩
  · rename_i ds
    obtain ⟨cs, b, e, e3, hk⟩ := h
    cases e2 with
    | sh q =>
      cases q with
      | nd q1 q2 => exact .inr ⟨_, _, cs, b, rfl, q1.seqT, clsAll_v q2 e, e3, res b hk⟩
  · exact h.elim)
/-! ### what the class of such an exception says, as one test -/
def excB (K : PySem.W.Frag) (C : Addr) : Bool := decide (PySem.W.findIn K (.ref C) "__getattribute__" = some (some (.builtin "BaseException.__getattribute__"))) && (decide (PySem.W.findIn K (.ref C) "__getattr__" = some none) && (decide (PySem.W.subIn K (.ref C) (.type "BaseException") = some true) &&
  (PySem.W.hasDictIn K C && (decide (PySem.W.findIn K (.ref C) "__class__" = some (some (.builtin "object.__class__"))) && (decide (PySem.W.specialIn K (.builtin "object.__class__") "__get__" = some (some (.builtin "getset_descriptor.__get__"))) &&
  (decide (PySem.W.takesIn K (.builtin "object.__class__") = some true) && decide (PySem.W.mroIn K C (.type "object") = some true)))))))
theorem excB_ok {K : PySem.W.Frag} {C : Addr} (h : excB K C = true) : ExcC K C := by
  obtain ⟨h1, h⟩ := and2 h
  obtain ⟨h2, h⟩ := and2 h
  obtain ⟨h3, h⟩ := and2 h
  obtain ⟨h4, h⟩ := and2 h
  obtain ⟨h5, h⟩ := and2 h
  obtain ⟨h6, h⟩ := and2 h
  obtain ⟨h7, h8⟩ := and2 h
  exact ⟨of_decide_eq_true h1, of_decide_eq_true h2, of_decide_eq_true h3, h4, of_decide_eq_true h5, of_decide_eq_true h6, of_decide_eq_true h7, of_decide_eq_true h8⟩
/-! ### try: body / except B as n: suite; every exception of the body is of one of the classes cs, below B, without fields -/
def vTryC (cs : List Addr) (i : Nat) (rb : VS) (rs : Addr → Addr → VS) : VS := fun ρ k ε => rb ρ k (fun exc ρ1 => (exc.f = none ∧ exc.C ∈ cs) ∧ ∀ a, rs exc.C a (ρ1.set i (.pin (.ref a))) { nx := fun ρ2 => k.nx (ρ2.set i .top), rt := k.rt, bk := fun ρ2 => k.bk (ρ2.set i .top), ct := fun ρ2 => k.ct (ρ2.set i .top) } (fun _ _ => False))
theorem sv_try_cls {X : Cx} {W : WX} {io : List Nat} {x n : Str} {C : Addr} {cs : List Addr} {i : Nat} {body suite : List Stmt} {b0 : Stmt} {hds : List ExceptHandler} {np pos pos' : Pos} {rb : VS} {rs : Addr → Addr → VS} (hs : X.stack = X.env :: X.outer) (hf : X.env.frame = some X.env.locals)
    (hN : X.N.Nodup) (hC : X.mg x = some (.ref C)) (hex : ∀ C' ∈ cs, PySem.W.exmOne X.K (.ref C') (.ref C) = some true)
    (hb : ∀ (W : WX) (pn : List (Addr × Obj)) (xe : Value → Shared → Prop), Takes (X.tr pn xe) W → PassesOwn (model X.prog X.w) X.A X.env xe → Bv (X.tr pn xe) W io body rb)
    (hsu : ∀ (C' : Addr), C' ∈ cs → ∀ (a : Addr) (oe : Obj) (pn : List (Addr × Obj)), Zc (.ref C') none oe → (∃ vs, oe.data = .fields vs) → Bv (X.suite a ((a, oe) :: pn)) (fun _ _ _ _ => False) io (b0 :: suite) (rs C' a))
    (hi : X.N[i]? = some n := by rfl) (hln : X.env.kindOf n = some .local := by rfl) (hio : io.contains i = false := by rfl) (hg : Gl X x := by rfl) (hdb : (x == ("__debug__" : Str)) = false := by decide) :
    Sv X W io (.Try body (.ExceptHandler (some (.Name x np)) (some n) (b0 :: suite) pos' :: hds) [] [] pos) (vTryC cs i rb rs) := by
  let tb : WX → TS := fun W D σ H => ∀ pn xe (h1 : Takes (X.tr pn xe) W) (h2 : PassesOwn (model X.prog X.w) X.A X.env xe), (hb W pn xe h1 h2).ex.choose D σ H
  let ts : Addr → Value → Option Addr → TS := fun a cls d D σ H => ∃ C', ∃ hm : C' ∈ cs, cls = .ref C' ∧ d = none ∧ ∀ oe pn (h1 : Zc (.ref C') none oe) (h2 : ∃ vs, oe.data = .fields vs), (hsu C' hm a oe pn h1 h2).ex.choose D σ H
  refine ⟨_, ps_try_fst (c := .ref C) (tb := tb) (ts := ts) (hds := hds) hs hf hN hi hln ⟨hg, hdb, .inl hC⟩ (fun W pn xe h1 h2 => ?_) (fun a oe cls d pn h1 h2 => ?_), ?_⟩
  · exact ⟨fun pins s σ H D I h => ((hb W pn xe h1 h2).ex.choose_spec.1).run pins s σ H D I (h pn xe h1 h2)⟩
  · refine ⟨fun pins s σ H D I h => ?_⟩
    obtain ⟨C', hm, e, ed, h⟩ := h
    subst e ed
    exact ((hsu C' hm a oe pn h1 h2).ex.choose_spec.1).run pins s σ H D I (h oe pn h1 h2)
  · intro S AA H σ ρ k ε D r l hn hr hbk hct h
    show tb (wFst X.K (.ref C) i ts D) D σ H
    intro pn xe h1 h2
    refine (hb _ pn xe h1 h2).ex.choose_spec.2 S AA H σ ρ k _ D r (fun σ1 cls d H1 ρ1 exc A1 so r1 x1 xr he => ?_) hn hr hbk hct h
    obtain ⟨⟨ef, hm⟩, he⟩ := he
    obtain ⟨ecls, xf⟩ := xr
    rw [ef] at xf
    have ed : d = none := xf
    subst ecls ed
    refine ⟨hex _ hm, fun a ha => ⟨exc.C, hm, rfl, rfl, fun oe pn h3 h4 => ?_⟩⟩
    have ro : RpO X.K H1 (fun b => S b ∨ b ∈ A1) (some (.ref a)) (.pin (.ref a)) [] := .pin
    obtain ⟨A2, r2, s2⟩ := (r1.push ro).store i
    have X2 : Ext AA H A2 H1 := x1.sub s2
    have SO : StOk io σ (σ1.set i (some (.ref a))) := so.trans (stOk_set hio)
    have gone : ∀ {σ' : L2.St} {H' : Hp} {ρ' : Env} {AA' : List Addr}, RelA X.K S AA' H' σ' ρ' → ∃ A5, RelA X.K S A5 H' (σ'.set i none) (ρ'.set i .top) ∧ ∀ b ∈ A5, b ∈ AA' := fun r' => r'.forget i none
    refine (hsu exc.C hm a oe pn h3 h4).ex.choose_spec.2 S A2 H1 _ _ _ _ _ r2 noLinkS (fun σ' H' ρ' AA' h5 so5 r5 x5 => ?_) (fun v σ' H' o ρ' AA' h5 so5 r5 x5 => ?_) (fun σ' H' ρ' AA' h5 so5 r5 x5 => ?_) (fun σ' H' ρ' AA' h5 so5 r5 x5 => ?_) (he a)
    · obtain ⟨A5, r6, s6⟩ := gone r5
      exact hn _ H' _ A5 h5 ((SO.trans so5).trans (stOk_set hio)) r6 ((X2.trans x5).sub s6)
    · exact hr v σ' H' o ρ' AA' h5 (SO.trans so5) r5 (X2.trans x5)
    · obtain ⟨A5, r6, s6⟩ := gone r5
      exact hbk _ H' _ A5 h5 ((SO.trans so5).trans (stOk_set hio)) r6 ((X2.trans x5).sub s6)
    · obtain ⟨A5, r6, s6⟩ := gone r5
      exact hct _ H' _ A5 h5 ((SO.trans so5).trans (stOk_set hio)) r6 ((X2.trans x5).sub s6)
end VL

namespace VL
open PySem PySem.Spec L2
/-- what an expression makes is kept as a fixed value -/
def vFz (re : VE) : VE := fun ρ φ ε => re ρ (fun o ρ1 => frD o fun d => φ (.sh d) ρ1) ε
theorem ev_fz {X : Cx} {W : WX} {p : Bool} {e : Expr} {re : VE} (he : Ev X W p e re) : Ev X W p e (vFz re) := by
  obtain ⟨t, ht, st⟩ := he.ex
  refine ⟨t, ht, fun S AA H σ ρ φ ε Q r l hQ h => ?_⟩
  refine st S AA H σ ρ _ ε _ r l (fun v H1 o ρ1 A1 h1 r1 x1 q1 => ?_) h
  obtain ⟨d, e1, h1⟩ := frD_of h1
  obtain ⟨A2, r2, hd, s2⟩ := RelA.fz1 (xs := σ) (os := ρ1) r1 e1
  exact hQ v H1 _ ρ1 A2 h1 (r2.push (.sh hd)) (x1.sub s2) q1
end VL

/-! == with an empty list, an empty tuple, whatever the other one holds -/
namespace VL
open PySem PySem.Spec L2
def rEqE (K : PySem.W.Frag) : R2 := fun x y H Q => ∃ p q xs, x = .ref p ∧ y = .ref q ∧ ((SqL K H p xs ∧ SqL K H q []) ∨ (SqT K H p xs ∧ SqT K H q [])) ∧ Q (.bl (decide (xs = []))) H
theorem op_eqE {X : Cx} (hu : X.A.units + 64 < cLine) : OpR X (compareOp .Eq) (rEqE X.K) := by
  intro pins s σ H x y v u Q I rx ry h
  obtain ⟨p, q, xs, rfl, rfl, h, hq⟩ := h
  cases (show v = Value.ref p from rx)
  cases (show u = Value.ref q from ry)
  have hu' : X.A.units < cLine := by omega
  rcases h with ⟨h1, h2⟩ | ⟨h1, h2⟩
  · obtain ⟨its, rv, pl, _⟩ := I.list h1
    obtain ⟨its2, rv2, pl2, _⟩ := I.list h2
    cases rv2
    by_cases e : xs = []
    · subst e
      cases rv
      refine PySem.SeqAt.eq_listAt (e := fun _ => true) pl.isList pl2.isList rfl hu' (fun j h1 _ => absurd h1 (by simp)) ⟨.bl _, H, I, rfl, ?_⟩
      simpa using hq
    · refine PySem.SeqAt.eq_list_lengthsAt pl.isList pl2.isList ?_ hu' ⟨.bl _, H, I, rfl, ?_⟩
      · have := rv.length
        have h0 : xs.length ≠ 0 := fun z => e (List.length_eq_zero_iff.mp z)
        simp only [bne_iff_ne, ne_eq, List.size_toArray, List.length_nil]
        omega
      · simpa [e] using hq
  · obtain ⟨its, rv, pl, _⟩ := I.tuple h1
    obtain ⟨its2, rv2, pl2, _⟩ := I.tuple h2
    cases rv2
    refine PySem.SeqAt.eq_tupleAt (e := fun _ => true) (show s.heap.IsTuple p its.toArray from pl) (show s.heap.IsTuple q #[] from pl2) hu' (fun j _ h1 => absurd h1 (by simp)) ⟨.bl _, H, I, rfl, ?_⟩
    have e1 : (its.toArray.size == ([] : List Value).toArray.size) = decide (xs = []) := by
      have := rv.length
      rw [Bool.eq_iff_iff, beq_iff_eq, decide_eq_true_iff, List.size_toArray, List.size_toArray, List.length_nil, ← this]
      exact List.length_eq_zero_iff
    rw [e1]
    simpa using hq
def gEqE (a b : O) (k : O → Prop) : Prop := match kids a, kids b with
  | some (.lst, ds), some (.lst, []) => k (.sh (.sc (.bl (decide (ds = [])))))
  | some (.fzl, ds), some (.lst, []) => k (.sh (.sc (.bl (decide (ds = [])))))
  | some (.tup, ds), some (.tup, []) => k (.sh (.sc (.bl (decide (ds = [])))))
  | _, _ => False
theorem RpSs.nil_iff {K : PySem.W.Frag} {H : Hp} {B : Addr → Prop} {vs : List V} {ds : List D} (h : RpSs K H B vs ds) : decide (vs = []) = decide (ds = []) := by
  cases h <;> simp
theorem sr_eqE {K : PySem.W.Frag} : Sr2 K (rEqE K) gEqE := by
  intro S AA H x y a b xs us k Q r hQ h
  have res : ∀ c, k (.sh (.sc (.bl c))) → Q (.bl c) H := fun c hk => hQ _ H _ hk (RelA.resS (.bl _) (ts := [_, _]) (us := [_, _]) r rfl)
  have both : ∀ {l l' : Lab} {ds : List D}, kids a = some (l, ds) → kids b = some (l', []) → ∃ p vs q, x = .ref p ∧ y = .ref q ∧ ShAt K H NB l p vs ∧ ShAt K H NB l' q [] ∧ decide (vs = []) = decide (ds = []) := fun {l l' ds} h1 h2 => by
    obtain ⟨p, vs, e1, s1, c1⟩ := r.kidsAt (i := 0) rfl rfl h1
    obtain ⟨q, ws, e2, s2, c2⟩ := r.kidsAt (i := 1) rfl rfl h2
    cases c2
    exact ⟨p, vs, q, e1, e2, s1, s2, c1.nil_iff⟩
  unfold gEqE at h
  split at h
  next ds h1 h2 =>
    obtain ⟨p, vs, q, rfl, rfl, s1, s2, e⟩ := both h1 h2
    exact ⟨p, q, vs, rfl, rfl, .inl ⟨s1.seqL, s2.seqL⟩, by rw [e]; exact res _ h⟩
  next ds h1 h2 =>
    obtain ⟨p, vs, q, rfl, rfl, s1, s2, e⟩ := both h1 h2
    exact ⟨p, q, vs, rfl, rfl, .inl ⟨s1.seqF, s2.seqL⟩, by rw [e]; exact res _ h⟩
  next ds h1 h2 =>
    obtain ⟨p, vs, q, rfl, rfl, s1, s2, e⟩ := both h1 h2
    exact ⟨p, q, vs, rfl, rfl, .inr ⟨s1.seqT, s2.seqT⟩, by rw [e]; exact res _ h⟩
  · exact h.elim
end VL

/-! the readings of VRepr, VIsE, VFz, VEqE, for simp -/
namespace VL
open PySem PySem.Spec L2
section
variable {ρ : Env} {φ : O → Env → Prop} {ε : XP} {k : VK} {ra : VE} {aa : VA} {sa : VS} {i : Nat} {cs : List Addr}
@[simp ↓] theorem x_fz : vFz ra ρ φ ε = ra ρ (fun o ρ1 => frD o fun d => φ (.sh d) ρ1) ε := (rfl)
@[simp ↓] theorem x_revL : vRevL ra ρ φ ε = ra ρ (fun o ρ1 => gRevL o fun o' => φ o' ρ1) ε := (rfl)
@[simp ↓] theorem x_tryC {rs : Addr → Addr → VS} : vTryC cs i sa rs ρ k ε = sa ρ k (fun exc ρ1 => (exc.f = none ∧ exc.C ∈ cs) ∧ ∀ a, rs exc.C a (ρ1.set i (.pin (.ref a))) { nx := fun ρ2 => k.nx (ρ2.set i .top), rt := k.rt, bk := fun ρ2 => k.bk (ρ2.set i .top), ct := fun ρ2 => k.ct (ρ2.set i .top) } (fun _ _ => False)) := (rfl)
end
section
variable {i : Int} {x : Str} {ds es : List D} {d : D} {k : O → Prop} {l : Lab}
@[simp] theorem y_strDI : gStrD (.sh (.sc (.int i))) k = (i.natAbs.log2 < 1920 ∧ k (.sh (.sc (.str (numS i))))) := (rfl)
@[simp] theorem y_strDS : gStrD (.sh (.sc (.str x))) k = k (.sh (.sc (.str x))) := (rfl)
@[simp] theorem y_strDN : gStrD (.sh (.nd l ds)) k = shwD (.nd l ds) k := (rfl)
@[simp] theorem y_tupleL : gTuple1 (.ow .lst ds) k = k (.sh (.nd .tup ds)) := (rfl)
@[simp] theorem y_tupleB : gTuple1 (.bor (.ow .lst ds)) k = k (.sh (.nd .tup ds)) := (rfl)
@[simp] theorem y_tupleS : gTuple1 (.sh (.nd .lst ds)) k = k (.sh (.nd .tup ds)) := (rfl)
@[simp] theorem y_tupleT : gTuple1 (.sh (.nd .tup ds)) k = k (.sh (.nd .tup ds)) := (rfl)
@[simp] theorem y_revL : gRevL (.ow .lst ds) k = k (.ow .lst ds.reverse) := (rfl)
@[simp] theorem y_revB : gRevL (.bor (.ow .lst ds)) k = k (.ow .lst ds.reverse) := (rfl)
@[simp] theorem y_revS : gRevL (.sh (.nd .lst ds)) k = k (.ow .lst ds.reverse) := (rfl)
@[simp] theorem y_eqE1 : gEqE (.ow .lst ds) (.ow .lst []) k = k (.sh (.sc (.bl (decide (ds = []))))) := (rfl)
@[simp] theorem y_eqE2 : gEqE (.bor (.ow .lst ds)) (.ow .lst []) k = k (.sh (.sc (.bl (decide (ds = []))))) := (rfl)
@[simp] theorem y_eqE3 : gEqE (.sh (.nd .lst ds)) (.ow .lst []) k = k (.sh (.sc (.bl (decide (ds = []))))) := (rfl)
@[simp] theorem y_eqE4 : gEqE (.sh (.nd .tup ds)) (.sh (.nd .tup [])) k = k (.sh (.sc (.bl (decide (ds = []))))) := (rfl)
end
/-- fit to be shown, with dicts -/
def ShwD (k n : Nat) (p : PyData) : Prop := p.showable = true ∧ p.depth ≤ k ∧ p.shown.length ≤ n
theorem shwD_of {d : D} {p : PyData} {K : O → Prop} (hp : toPyD d = some p) (h : p.showable = true ∧ p.depth ≤ 60 ∧ p.shown.length ≤ sizeLine) (hK : K (.sh (.sc (.str p.shown)))) : shwD d K := by
  unfold shwD
  rw [hp]
  exact ⟨h, hK⟩
theorem reprD_of {a : O} {d : D} {p : PyData} {K : O → Prop} (hv : view a = some d) (hp : toPyD d = some p) (h : p.showable = true ∧ p.depth ≤ 60 ∧ p.shown.length ≤ sizeLine) (hK : K (.sh (.sc (.str p.shown)))) : gReprD a K := by
  unfold gReprD vw
  rw [hv]
  exact shwD_of hp h hK
end VL

namespace VL
open PySem PySem.Spec L2
/-! a, b, c, d = w, x, y, z -/
def vPar4 (i j l m : Nat) (ra : VA) : VS := fun ρ k ε => ra ρ (fun os ρ1 => match os with
  | [a, b, c, d] => k.nx ((((ρ1.set i a).set j b).set l c).set m d)
  | _ => False) ε
theorem sv_par4 {X : Cx} {W : WX} {p : Bool} {io : List Nat} {i j l m : Nat} {x y z w : Str} {a b c d : Expr} {ra : VA} {px py pz pw pt pos : Pos} {kt k2 : Nat} {pt2 : Pos} (hc : X.calm = true) (hN : X.N.Nodup) (ha : Av X W p [a, b, c, d] ra)
    (hi : X.N[i]? = some x := by rfl) (hj : X.N[j]? = some y := by rfl) (hl : X.N[l]? = some z := by rfl) (hm : X.N[m]? = some w := by rfl)
    (hx : X.env.scope.names.lookup x = some .local := by rfl) (hy : X.env.scope.names.lookup y = some .local := by rfl) (hz : X.env.scope.names.lookup z = some .local := by rfl) (hw' : X.env.scope.names.lookup w = some .local := by rfl)
    (hs : swapsWithSole [.Tuple [.Name x px, .Name y py, .Name z pz, .Name w pw] kt pt] (.Tuple [a, b, c, d] k2 pt2) pos.line X.env = pure false := by rfl)
    (hw : swappedStores [.Tuple [.Name x px, .Name y py, .Name z pz, .Name w pw] kt pt] (.Tuple [a, b, c, d] k2 pt2) X.env = pure none := by rfl)
    (h1 : io.contains i = false := by rfl) (h2 : io.contains j = false := by rfl) (h3 : io.contains l = false := by rfl) (h4 : io.contains m = false := by rfl) :
    Sv X W io (.Assign [.Tuple [.Name x px, .Name y py, .Name z pz, .Name w pw] kt pt] (.Tuple [a, b, c, d] k2 pt2) pos) (vPar4 i j l m ra) := by
  obtain ⟨t, ht, st⟩ := ha.ex
  have g1 := pgs_cons (pg_name (pos := pw) hN hm (.inl hw') (.inr hw')) (pgs_nil (X := X)) rfl
  have g2 := pgs_cons (pg_name (pos := pz) hN hl (.inl hz) (.inr hz)) g1 rfl
  have g3 := pgs_cons (pg_name (pos := py) hN hj (.inl hy) (.inr hy)) g2 rfl
  have g4 := pgs_cons (pg_name (pos := px) hN hi (.inl hx) (.inr hx)) g3 rfl
  refine ⟨_, ps_asg (pe_tup ht) (pg_tup (k := kt) (n := 4) (pos := pt) hc g4 rfl rfl) hs hw rfl, fun S AA H σ ρ k ε D r lk hn hr hb hct h => ?_⟩
  refine st S AA H σ ρ _ ε _ r lk.e (fun vs H1 os ρ1 A1 h1' hlen r1 x1 p1 => ?_) h
  split at h1'
  next a b c d =>
    obtain ⟨v1, v2, v3, v4, rfl⟩ : ∃ v1 v2 v3 v4, vs = [v1, v2, v3, v4] := by
      rcases vs with _ | ⟨v1, _ | ⟨v2, _ | ⟨v3, _ | ⟨v4, _ | ⟨v5, vs⟩⟩⟩⟩⟩ <;> first | exact ⟨_, _, _, _, rfl⟩ | (simp at hlen)
    refine ⟨(show 4 ≤ sizeLine by decide +kernel), fun q hq => ?_⟩
    replace r1 : RelA X.K S A1 H1 (some v1 :: some v2 :: some v3 :: some v4 :: σ) (a :: b :: c :: d :: ρ1) := r1
    obtain ⟨A2, r2, s2⟩ := r1.store (i + 1 + 1 + 1)
    replace r2 : RelA X.K S A2 H1 (some v2 :: some v3 :: some v4 :: σ.set i (some v1)) (b :: c :: d :: ρ1.set i a) := r2
    obtain ⟨A3, r3, s3⟩ := r2.store (j + 1 + 1)
    replace r3 : RelA X.K S A3 H1 (some v3 :: some v4 :: (σ.set i (some v1)).set j (some v2)) (c :: d :: (ρ1.set i a).set j b) := r3
    obtain ⟨A4, r4, s4⟩ := r3.store (l + 1)
    replace r4 : RelA X.K S A4 H1 (some v4 :: ((σ.set i (some v1)).set j (some v2)).set l (some v3)) (d :: ((ρ1.set i a).set j b).set l c) := r4
    obtain ⟨A5, r5, s5⟩ := r4.store m
    have sm : Same H1 (upd H1 q (.tup [v1, v2, v3, v4])) := same_new hq
    have k1 : Keep H1 (upd H1 q (.tup [v1, v2, v3, v4])) (fun a => S a ∨ a ∈ A5) (fun a => S a ∨ a ∈ A5) := Keep.same sm fun _ _ nb _ => nb
    have r6 : RelA X.K S A5 (upd H1 q (.tup [v1, v2, v3, v4])) _ _ := ⟨r5.rp.pure k1 sm _, r5.nd, r5.ns, fun b hb => by
      obtain ⟨u, e⟩ := r5.st b hb
      exact ⟨u, sm b u e⟩⟩
    refine ⟨q, [v1, v2, v3, v4], rfl, .inl (.inl upd_same), rfl, v1, _, rfl, v2, _, rfl, v3, _, rfl, v4, _, rfl, rfl, ?_⟩
    exact hn _ _ _ A5 h1' (((stOk_set h1).trans (stOk_set h2)).trans ((stOk_set h3).trans (stOk_set h4))) r6 ((x1.sub fun c hc => s2 c (s3 c (s4 c (s5 c hc)))).trans (Ext.same sm fun a ha => .inr ha))
  · exact h1'.elim
@[simp ↓] theorem x_par4 {i j l m : Nat} {ra : VA} {ρ : Env} {k : VK} {ε : XP} : vPar4 i j l m ra ρ k ε = ra ρ (fun os ρ1 => match os with
  | [a, b, c, d] => k.nx ((((ρ1.set i a).set j b).set l c).set m d)
  | _ => False) ε := (rfl)
/-! a name whose value is known (a caught exception) -/
def vPin (i : Nat) : VE := fun ρ φ _ => ∃ v, envAt ρ i = .pin v ∧ φ (.pin v) ρ
theorem ev_pin {X : Cx} {W : WX} {i : Nat} {x : Str} {pos : Pos} (h : PE X (.Name x pos) (tVar i)) : Ev X W true (.Name x pos) (vPin i) := by
  refine ⟨_, h, fun S AA H σ ρ φ ε Q r l hQ h => ?_⟩
  obtain ⟨v, e, h⟩ := h
  obtain ⟨x, A, h1, h2⟩ := r.get (envAt_some e (by intro z; cases z))
  cases h2
  exact ⟨v, h1, hQ v H _ ρ AA h (r.push .pin) Ext.refl fun _ => ⟨rfl, Same.refl H⟩⟩
@[simp ↓] theorem x_pin {i : Nat} {ρ : Env} {φ : O → Env → Prop} {ε : XP} : vPin i ρ φ ε = ∃ v, envAt ρ i = .pin v ∧ φ (.pin v) ρ := (rfl)
end VL

/-! places in trees; names that stand for a place -/
namespace VL
open PySem PySem.Spec L2

def kidsO : O → Option (List O)
  | .dp _ os => some os
  | .nm _ (.dp _ os) => some os
  | _ => none
def setKid : O → Nat → O → O
  | .dp l os, j, u => .dp l (os.set j u)
  | .nm a (.dp l os), j, u => .nm a (.dp l (os.set j u))
  | o, _, _ => o
def getO : List Nat → O → Option O
  | [], o => some o
  | j :: p, o => match kidsO o with
    | some os => match os[j]? with
      | some u => getO p u
      | none => none
    | none => none
def setO : List Nat → O → O → O
  | [], _, u => u
  | j :: p, o, u => match kidsO o with
    | some os => match os[j]? with
      | some c => setKid o j (setO p c u)
      | none => o
    | none => o
def getP (ρ : Env) : List Nat → Option O
  | [] => none
  | i :: p => match ρ[i]? with
    | some o => getO p o
    | none => none
def setP (ρ : Env) : List Nat → O → Env
  | [], _ => ρ
  | i :: p, u => match ρ[i]? with
    | some o => ρ.set i (setO p o u)
    | none => ρ

section
variable {K : PySem.W.Frag} {H : Hp} {B : Addr → Prop}
theorem all_set {os : List O} {j : Nat} {u : O} (h : os.all (fun o => !isBor o) = true) (hu : isBor u = false) : (os.set j u).all (fun o => !isBor o) = true := by
  rw [List.all_eq_true] at h ⊢
  intro x hx
  rcases List.mem_or_eq_of_mem_set hx with hx | hx
  · exact h x hx
  · rw [hx, hu]; rfl
theorem RpO.kid {x : Option V} {o : O} {A : List Addr} (h : RpO K H B x o A) {os : List O} (hk : kidsO o = some os) {j : Nat} {c : O} (hj : os[j]? = some c) :
    ∃ w Ac A1 A2, A = A1 ++ Ac ++ A2 ∧ RpO K H B (some w) c Ac ∧ isBor c = false ∧ ∀ c' Ac', isBor c' = false → RpO K H B (some w) c' Ac' → RpO K H B x (setKid o j c') (A1 ++ Ac' ++ A2) := by
  have main : ∀ {a : Addr} {l : Lab} {A : List Addr}, RpO K H B (some (.ref a)) (.dp l os) A → ∃ w Ac A1 A2, A = A1 ++ Ac ++ A2 ∧ RpO K H B (some w) c Ac ∧ isBor c = false ∧ ∀ c' Ac', isBor c' = false → RpO K H B (some w) c' Ac' → RpO K H B (some (.ref a)) (.dp l (os.set j c')) (A1 ++ Ac' ++ A2) := by
    intro a l A h
    cases h with
    | @dp _ hh _ vs _ A h1 h2 hb h4 =>
      obtain ⟨y, A1, A', A2, e, ey, hc, q⟩ := h4.set hj
      rw [List.getElem?_map] at ey
      cases ev : vs[j]? with
      | none => rw [ev] at ey; cases ey
      | some w =>
        rw [ev] at ey
        cases ey
        refine ⟨w, A', a :: A1, A2, by rw [e]; rfl, hc, ?_, fun c' Ac' nb hc' => ?_⟩
        · have := List.all_eq_true.mp hb c (List.mem_of_getElem? hj)
          cases e : isBor c with
          | false => rfl
          | true => rw [e] at this; cases this
        · have q' := q (some w) c' Ac' hc'
          rw [set_self (by rw [List.getElem?_map, ev]; rfl)] at q'
          exact .dp h1 h2 (all_set hb nb) q'
  cases o with
  | dp l os' =>
    cases hk
    cases h with
    | dp h1 h2 hb h4 => exact main (.dp h1 h2 hb h4)
  | nm a o =>
    cases h with
    | nm nb h1 =>
      cases o with
      | dp l os' =>
        cases hk
        obtain ⟨w, Ac, A1, A2, e, hc, nbc, q⟩ := main h1
        exact ⟨w, Ac, A1, A2, e, hc, nbc, fun c' Ac' n h => .nm rfl (q c' Ac' n h)⟩
      | _ => cases hk
  | _ => cases hk
theorem RpO.place : ∀ (p : List Nat) {x : Option V} {o u : O} {A : List Addr}, RpO K H B x o A → getO p o = some u →
    ∃ y Au A1 A2, A = A1 ++ Au ++ A2 ∧ RpO K H B y u Au ∧ ∀ u' Au', isBor u' = false → RpO K H B y u' Au' → RpO K H B x (setO p o u') (A1 ++ Au' ++ A2)
  | [], x, o, u, A, h, e => by
    cases e
    exact ⟨x, A, [], [], by simp, h, fun u' Au' _ h' => by simpa [setO] using h'⟩
  | j :: p, x, o, u, A, h, e => by
    unfold getO at e
    cases ek : kidsO o with
    | none => rw [ek] at e; cases e
    | some os =>
      rw [ek] at e
      cases ej : os[j]? with
      | none => simp only [ej] at e; cases e
      | some c =>
        simp only [ej] at e
        obtain ⟨w, Ac, A1, A2, eA, hc, nb, q⟩ := h.kid ek ej
        obtain ⟨y, Au, A3, A4, eC, hu, q2⟩ := RpO.place p hc e
        refine ⟨y, Au, A1 ++ A3, A4 ++ A2, by rw [eA, eC]; simp [List.append_assoc], hu, fun u' Au' n h' => ?_⟩
        have z := q2 u' Au' n h'
        have nb' : isBor (setO p c u') = false := by
          cases p with
          | nil => exact n
          | cons i p =>
            unfold setO
            cases e1 : kidsO c with
            | none => exact nb
            | some os2 =>
              cases e2 : os2[i]? with
              | none => simp only [e2]; exact nb
              | some c2 =>
                simp only [e2]
                cases c with
                | dp _ _ => rfl
                | nm _ o => cases o <;> rfl
                | _ => cases e1
        have := q _ _ nb' z
        rw [setO, ek]
        simp only [ej]
        rw [show A1 ++ A3 ++ Au' ++ (A4 ++ A2) = A1 ++ (A3 ++ Au' ++ A4) ++ A2 by simp [List.append_assoc]]
        exact this
theorem RpOs.placeP {σ : List (Option V)} {ρ : List O} {A : List Addr} (h : RpOs K H B σ ρ A) {q : List Nat} {u : O} (e : getP ρ q = some u) :
    ∃ y Au A1 A2, A = A1 ++ Au ++ A2 ∧ RpO K H B y u Au ∧ ∀ u' Au', isBor u' = false → RpO K H B y u' Au' → RpOs K H B σ (setP ρ q u') (A1 ++ Au' ++ A2) := by
  cases q with
  | nil => cases e
  | cons i p =>
    simp only [getP] at e
    cases ei : ρ[i]? with
    | none => simp only [ei] at e; cases e
    | some o =>
      simp only [ei] at e
      obtain ⟨x, A1, A', A2, eA, ex, ho, q⟩ := h.set ei
      obtain ⟨y, Au, A3, A4, eC, hu, q2⟩ := RpO.place p ho e
      refine ⟨y, Au, A1 ++ A3, A4 ++ A2, by rw [eA, eC]; simp [List.append_assoc], hu, fun u' Au' n h' => ?_⟩
      have z := q x _ _ (q2 u' Au' n h')
      rw [set_self ex] at z
      rw [setP, ei]
      rw [show A1 ++ A3 ++ Au' ++ (A4 ++ A2) = A1 ++ (A3 ++ Au' ++ A4) ++ A2 by simp [List.append_assoc]]
      exact z
end
section
theorem kids_set {o : O} {os : List O} (h : kidsO o = some os) (j : Nat) (u : O) : kidsO (setKid o j u) = some (os.set j u) := by
  cases o with
  | dp l os' => cases h; rfl
  | nm a o =>
    cases o with
    | dp l os' => cases h; rfl
    | _ => cases h
  | _ => cases h
theorem setKid2 {o : O} {os : List O} (h : kidsO o = some os) (j : Nat) (u w : O) : setKid (setKid o j u) j w = setKid o j w := by
  cases o with
  | dp l os' => cases h; simp [setKid]
  | nm a o =>
    cases o with
    | dp l os' => cases h; simp [setKid]
    | _ => cases h
  | _ => cases h
theorem getO_setO : ∀ (p : List Nat) {o u w : O}, getO p o = some u → getO p (setO p o w) = some w
  | [], _, _, _, _ => rfl
  | j :: p, o, u, w, e => by
    unfold getO at e
    cases ek : kidsO o with
    | none => rw [ek] at e; cases e
    | some os =>
      rw [ek] at e
      cases ej : os[j]? with
      | none => simp only [ej] at e; cases e
      | some c =>
        simp only [ej] at e
        rw [setO, ek]
        simp only [ej]
        rw [getO, kids_set ek]
        simp only [List.getElem?_set_self (List.getElem?_eq_some_iff.mp ej).1]
        exact getO_setO p e
theorem setO_setO : ∀ (p : List Nat) {o u w z : O}, getO p o = some u → setO p (setO p o w) z = setO p o z
  | [], _, _, _, _, _ => rfl
  | j :: p, o, u, w, z, e => by
    unfold getO at e
    cases ek : kidsO o with
    | none => rw [ek] at e; cases e
    | some os =>
      rw [ek] at e
      cases ej : os[j]? with
      | none => simp only [ej] at e; cases e
      | some c =>
        simp only [ej] at e
        have e1 : setO (j :: p) o w = setKid o j (setO p c w) := by rw [setO, ek]; simp only [ej]
        have e2 : setO (j :: p) o z = setKid o j (setO p c z) := by rw [setO, ek]; simp only [ej]
        rw [e1, e2, setO, kids_set ek]
        simp only [List.getElem?_set_self (List.getElem?_eq_some_iff.mp ej).1]
        rw [setKid2 ek, setO_setO p e]
theorem kill_setO {p : List Nat} {o u w : O} (h : getO p o = some u) (nu : isBor u = false) (nw : isBor w = false) : kill o = o ∧ kill (setO p o w) = setO p o w := by
  have kn : ∀ {o : O}, isBor o = false → kill o = o := by
    intro o h
    cases o <;> first | rfl | cases h
  cases p with
  | nil => cases h; exact ⟨kn nu, kn nw⟩
  | cons j p =>
    unfold getO at h
    cases ek : kidsO o with
    | none => rw [ek] at h; cases h
    | some os =>
      rw [ek] at h
      cases ej : os[j]? with
      | none => simp only [ej] at h; cases h
      | some c =>
        rw [setO, ek]
        simp only [ej]
        cases o with
        | dp _ _ => exact ⟨rfl, rfl⟩
        | nm _ o => cases o <;> exact ⟨rfl, rfl⟩
        | _ => cases ek
theorem getP_setP {ρ : Env} {q : List Nat} {u w : O} (h : getP ρ q = some u) : getP (setP ρ q w) q = some w := by
  cases q with
  | nil => cases h
  | cons i p =>
    simp only [getP] at h
    cases ei : ρ[i]? with
    | none => simp only [ei] at h; cases h
    | some o =>
      simp only [ei] at h
      rw [setP, ei, getP]
      simp only [List.getElem?_set_self (List.getElem?_eq_some_iff.mp ei).1]
      exact getO_setO p h
theorem setP_setP {ρ : Env} {q : List Nat} {u w z : O} (h : getP ρ q = some u) : setP (setP ρ q w) q z = setP ρ q z := by
  cases q with
  | nil => cases h
  | cons i p =>
    simp only [getP] at h
    cases ei : ρ[i]? with
    | none => simp only [ei] at h; cases h
    | some o =>
      simp only [ei] at h
      have e1 : ∀ w, setP ρ (i :: p) w = ρ.set i (setO p o w) := fun w => by rw [setP, ei]
      rw [e1, e1, setP]
      simp only [List.getElem?_set_self (List.getElem?_eq_some_iff.mp ei).1]
      rw [setO_setO p h, List.set_set]
/-- the place is exchanged, borrowed views fall -/
def putP (ρ : Env) (q : List Nat) (u : O) : Env := setP (ρ.map kill) q u
theorem put_eq {ρ : Env} {q : List Nat} {u w z : O} (h : getP ρ q = some u) (nu : isBor u = false) (nw : isBor w = false) : setP ((setP ρ q w).map kill) q z = putP ρ q z ∧ getP ((setP ρ q w).map kill) q = some w ∧ getP (ρ.map kill) q = some u := by
  cases q with
  | nil => cases h
  | cons i p =>
    simp only [getP] at h
    cases ei : ρ[i]? with
    | none => simp only [ei] at h; cases h
    | some o =>
      simp only [ei] at h
      obtain ⟨k1, k2⟩ := kill_setO h nu nw
      have hi := (List.getElem?_eq_some_iff.mp ei).1
      have e1 : setP ρ (i :: p) w = ρ.set i (setO p o w) := by rw [setP, ei]
      have e2 : (ρ.map kill)[i]? = some o := by rw [List.getElem?_map, ei]; show some (kill o) = _; rw [k1]
      have e3 : (setP ρ (i :: p) w).map kill = (ρ.map kill).set i (setO p o w) := by rw [e1, List.map_set, k2]
      refine ⟨?_, ?_, ?_⟩
      · rw [e3, putP, setP, setP, e2]
        simp only [List.getElem?_set_self (show i < (ρ.map kill).length by rw [List.length_map]; exact hi)]
        rw [setO_setO p h, List.set_set]
      · rw [e3, getP]
        simp only [List.getElem?_set_self (show i < (ρ.map kill).length by rw [List.length_map]; exact hi)]
        exact getO_setO p h
      · rw [getP, e2]
        exact h
end
section
variable {K : PySem.W.Frag} {S : Addr → Prop} {AA : List Addr} {H : Hp}
theorem perm3 {A1 Au A2 : List Addr} : (A1 ++ Au ++ A2).Perm (Au ++ (A1 ++ A2)) := by
  rw [List.append_assoc]
  exact List.perm_append_comm_assoc A1 Au A2
/-- the tree at a place comes ahead -/
theorem RelA.outP {σ : List (Option V)} {ρ : Env} (r : RelA K S AA H σ ρ) {q : List Nat} {u : O} (e : getP ρ q = some u) (nt : u ≠ .top) :
    ∃ v AA', RelA K S AA' H (some v :: σ) (u :: setP ρ q (.pin v)) ∧ ∀ a ∈ AA', a ∈ AA := by
  obtain ⟨y, Au, A1, A2, eA, hu, q2⟩ := r.rp.placeP e
  obtain ⟨v, rfl⟩ : ∃ v, y = some v := by
    cases hu with
    | top => exact absurd rfl nt
    | pin => exact ⟨_, rfl⟩
    | al => exact ⟨_, rfl⟩
    | nm _ _ => exact ⟨_, rfl⟩
    | sh _ => exact ⟨_, rfl⟩
    | ow _ _ _ => exact ⟨_, rfl⟩
    | dp _ _ _ _ => exact ⟨_, rfl⟩
    | bor _ => exact ⟨_, rfl⟩
  have q3 := q2 (.pin v) [] rfl .pin
  have pm : AA.Perm (Au ++ (A1 ++ A2)) := eA ▸ perm3
  refine ⟨v, Au ++ (A1 ++ A2), ⟨?_, pm.nodup r.nd, fun a ha => r.ns a (pm.mem_iff.mpr ha), r.st⟩, fun a ha => pm.mem_iff.mpr ha⟩
  rw [List.append_nil] at q3
  exact (RpOs.cons hu q3).congr fun a => by rw [pm.mem_iff]
/-- .. and goes back -/
theorem RelA.inP {σ : List (Option V)} {ρ : Env} {v : V} {u : O} (r : RelA K S AA H (some v :: σ) (u :: ρ)) {q : List Nat} (e : getP ρ q = some (.pin v)) (nb : isBor u = false) :
    ∃ AA', RelA K S AA' H σ (setP ρ q u) ∧ ∀ a ∈ AA', a ∈ AA := by
  have h0 := r.rp
  have nd := r.nd
  have ns := r.ns
  generalize hB : (fun a => S a ∨ a ∈ AA) = B at h0
  cases h0 with
  | @cons _ _ _ _ A0 A3 h1 h2 =>
    obtain ⟨y, Au, A1, A2, eA, hu, q2⟩ := h2.placeP e
    cases hu
    have q3 := q2 u A0 nb h1
    rw [List.append_nil] at eA
    have pm : (A0 ++ A3).Perm (A1 ++ A0 ++ A2) := by
      rw [eA]
      exact perm3.symm
    refine ⟨A1 ++ A0 ++ A2, ⟨q3.congr fun a => ?_, pm.nodup nd, fun a ha => ns a (pm.mem_iff.mpr ha), r.st⟩, fun a ha => pm.mem_iff.mpr ha⟩
    rw [← hB]
    show (S a ∨ a ∈ A0 ++ A3) ↔ _
    rw [pm.mem_iff]
theorem getP_up {o : O} {ρ : Env} {i : Nat} {p : List Nat} : getP (o :: ρ) ((i + 1) :: p) = getP ρ (i :: p) := rfl
theorem setP_up {o u : O} {ρ : Env} {i : Nat} {p : List Nat} : setP (o :: ρ) ((i + 1) :: p) u = o :: setP ρ (i :: p) u := by
  rw [setP, setP, List.getElem?_cons_succ]
  cases ρ[i]? <;> rfl
/-- the cell of a named place, its parts -/
theorem RelA.cellP {σ : List (Option V)} {ρ : Env} (r : RelA K S AA H σ ρ) {q : List Nat} {a : Addr} {t : O} (e : getP ρ q = some (.nm a t)) : ∃ A, RpO K H (fun a => S a ∨ a ∈ AA) (some (.ref a)) (.nm a t) A := by
  obtain ⟨y, Au, A1, A2, eA, hu, q2⟩ := r.rp.placeP e
  cases hu with
  | nm h1 h2 => exact ⟨_, .nm h1 h2⟩
end
/-! ### reading through a name -/
def resO (ρ : Env) (o : O) (k : O → Prop) : Prop := match o with
  | .al a q => match getP ρ q with
    | some (.nm b t) => b = a ∧ k (.bor (.nm b t))
    | _ => False
  | o => k o
def vRes (r : VE) : VE := fun ρ φ ε => r ρ (fun o ρ1 => resO ρ1 o fun u => φ u ρ1) ε
theorem snd_res {K : PySem.W.Frag} {W : WX} {p : Bool} {t : TE} {r : VE} (h : SndE K W p t r) : SndE K W p t (vRes r) := by
  intro S AA H σ ρ φ ε Q rel l hQ hr
  refine h S AA H σ ρ _ ε _ rel l (fun v H' o ρ' AA' hk r' x' p' => ?_) hr
  cases o with
  | al a q =>
    have hk0 : match getP ρ' q with
      | some (.nm b t) => b = a ∧ φ (.bor (.nm b t)) ρ'
      | _ => False := hk
    split at hk0
    next b t eg =>
      obtain ⟨rfl, hk1⟩ := hk0
      obtain ⟨A1, r1, s1⟩ := r'.drop1
      have ev : v = .ref b := by
        obtain ⟨x, A, e1, e2⟩ := r'.get (i := 0) rfl
        cases e1
        cases e2
        rfl
      subst ev
      obtain ⟨A, hc⟩ := r1.cellP eg
      exact hQ _ H' _ ρ' A1 hk1 (r1.push (.bor hc)) (x'.sub s1) p'
    · exact hk0.elim
  | _ => exact hQ v H' _ ρ' AA' hk r' x' p'
theorem ev_res {X : Cx} {W : WX} {p : Bool} {e : Expr} {r : VE} (h : Ev X W p e r) : Ev X W p e (vRes r) := by
  obtain ⟨t, ht, st⟩ := h.ex
  exact ⟨t, ht, snd_res st⟩
/-! ### places by expressions -/
def vPlN (i : Nat) : VE := fun ρ φ _ => match envAt ρ i with
  | .nm a _ => φ (.al a [i]) ρ
  | .al a p => φ (.al a p) ρ
  | .sh d => φ (.sh d) ρ
  | .ow l ds => ∀ a, φ (.al a [i]) (ρ.set i (.nm a (.ow l ds)))
  | .dp l os => ∀ a, φ (.al a [i]) (ρ.set i (.nm a (.dp l os)))
  | _ => False
section
variable {K : PySem.W.Frag} {S : Addr → Prop} {AA : List Addr} {H : Hp}
/-- a place gets a name -/
theorem RelA.named {σ : List (Option V)} {ρ : Env} (r : RelA K S AA H σ ρ) {q : List Nat} {u : O} (e : getP ρ q = some u) (ho : (∃ l ds, u = .ow l ds) ∨ ∃ l os, u = .dp l os) :
    ∃ a, RelA K S AA H σ (setP ρ q (.nm a u)) ∧ ∃ A, RpO K H (fun a => S a ∨ a ∈ AA) (some (.ref a)) u A := by
  obtain ⟨y, Au, A1, A2, eA, hu, q2⟩ := r.rp.placeP e
  obtain ⟨a, rfl⟩ : ∃ a, y = some (.ref a) := by
    rcases ho with ⟨l, ds, rfl⟩ | ⟨l, ds, rfl⟩
    · cases hu with | ow _ _ _ => exact ⟨_, rfl⟩
    · cases hu with | dp _ _ _ _ => exact ⟨_, rfl⟩
  have nb : isBor u = false := by
    rcases ho with ⟨l, ds, rfl⟩ | ⟨l, ds, rfl⟩ <;> rfl
  have z := q2 (.nm a u) Au rfl (.nm nb hu)
  rw [← eA] at z
  exact ⟨a, ⟨z, r.nd, r.ns, r.st⟩, _, hu⟩
end
theorem snd_plN {K : PySem.W.Frag} {W : WX} (i : Nat) : SndE K W false (tVar i) (vPlN i) := by
  intro S AA H σ ρ φ ε Q r l hQ h
  have hnm : ∀ (a : Addr) (u : O), envAt ρ i = .nm a u → φ (.al a [i]) ρ → tVar i σ H Q := by
    intro a u e hk
    obtain ⟨x, A, e1, e2⟩ := r.get (envAt_some e (by intro z; cases z))
    cases e2 with
    | nm h1 h2 => exact ⟨_, e1, hQ _ H _ ρ AA hk (r.push .al) Ext.refl (fun e => by cases e)⟩
  have hown : ∀ u : O, envAt ρ i = u → ((∃ l ds, u = .ow l ds) ∨ ∃ l os, u = .dp l os) → (∀ a, φ (.al a [i]) (ρ.set i (.nm a u))) → tVar i σ H Q := by
    intro u e ho hk
    have ei : ρ[i]? = some u := envAt_some e (by rintro rfl; rcases ho with ⟨_, _, z⟩ | ⟨_, _, z⟩ <;> cases z)
    obtain ⟨a, r1, A, ha⟩ := r.named (q := [i]) (u := u) (by rw [getP, ei]; rfl) ho
    have e2 : setP ρ [i] (.nm a u) = ρ.set i (.nm a u) := by rw [setP, ei]; rfl
    rw [e2] at r1
    obtain ⟨x, A3, e3, e4⟩ := r1.get (i := i) (List.getElem?_set_self (List.getElem?_eq_some_iff.mp ei).1)
    cases e4 with
    | nm h1 h2 => exact ⟨_, e3, hQ _ H _ _ AA (hk a) (r1.push .al) Ext.refl (fun e => by cases e)⟩
  unfold vPlN at h
  cases e : envAt ρ i with
  | nm a u => rw [e] at h; exact hnm a u e h
  | al a p =>
    rw [e] at h
    obtain ⟨x, A, e1, e2⟩ := r.get (envAt_some e (by intro z; cases z))
    cases e2
    exact ⟨_, e1, hQ _ H _ ρ AA h (r.push .al) Ext.refl (fun e => by cases e)⟩
  | sh d =>
    rw [e] at h
    obtain ⟨x, A, e1, e2⟩ := r.get (envAt_some e (by intro z; cases z))
    cases e2 with
    | sh hs => exact ⟨_, e1, hQ _ H _ ρ AA h (r.push (.sh hs)) Ext.refl (fun e => by cases e)⟩
  | ow lb ds => rw [e] at h; exact hown _ e (.inl ⟨_, _, rfl⟩) h
  | dp lb os => rw [e] at h; exact hown _ e (.inr ⟨_, _, rfl⟩) h
  | _ => rw [e] at h; exact h.elim
theorem ev_plN {X : Cx} {W : WX} {i : Nat} {x : Str} {pos : Pos} (h : PE X (.Name x pos) (tVar i)) : Ev X W false (.Name x pos) (vPlN i) := ⟨_, h, snd_plN i⟩
/-! ### methods that change a named thing -/
theorem ownT_tyO {K : PySem.W.Frag} {H : Hp} {B : Addr → Prop} {v : V} {t : O} {A : List Addr} {T : String} (r : RpO K H B (some v) t A) (h : ownT T t) : tyV K T v H := by
  cases t with
  | ow l cs =>
    cases l with
    | lst =>
      cases r with
      | ow h1 h2 h3 =>
        cases h2
        exact .inl ⟨h, _, .inl (.inl h1)⟩
    | dk ks =>
      cases r with
      | ow h1 h2 h3 =>
        obtain ⟨_, h2⟩ := h2
        subst h2
        exact .inr (.inr (.inl ⟨h, .inl ⟨_, h1⟩⟩))
    | _ => exact h.elim
  | dp l cs =>
    cases l with
    | lst =>
      cases r with
      | dp h1 h2 h3 h4 =>
        cases h2
        exact .inl ⟨h, _, .inl (.inl h1)⟩
    | _ => exact h.elim
  | _ => exact h.elim
def atN (ρ : Env) (o : O) (k : Addr → List Nat → O → Prop) : Prop := match o with
  | .al a q => match getP ρ q with
    | some (.nm b t) => b = a ∧ k a q t
    | _ => False
  | _ => False
theorem atN_of {ρ : Env} {o : O} {k : Addr → List Nat → O → Prop} (h : atN ρ o k) : ∃ a q t, o = .al a q ∧ getP ρ q = some (.nm a t) ∧ k a q t := by
  cases o with
  | al a q =>
    have h0 : match getP ρ q with
      | some (.nm b t) => b = a ∧ k a q t
      | _ => False := h
    split at h0
    next b t e => exact ⟨a, q, t, rfl, by rw [e, h0.1], h0.2⟩
    · exact h0.elim
  | _ => exact (show False from h).elim
def vMutP (T : String) (m : VM) (rp : VE) (ra : VA) : VE := fun ρ φ ε => rp ρ (fun o ρ1 => atN ρ1 o fun _ _ t0 => ownT T t0 ∧ ra ρ1 (fun os ρ2 => atN ρ2 o fun a q t => m t os fun res t' => isBor t' = false ∧ φ res (putP ρ2 q (.nm a t'))) ε) ε
theorem snd_mutP {K : PySem.W.Frag} {W : WX} {pp p : Bool} {T : String} {rd : V → List V → Hp → L2.VK → Prop} {m : VM} {to : TE} {rp : VE} {t : TA} {ra : VA} (hm : MSrv K rd m) (ho : SndE K W pp to rp) (ha : SndA K W p t ra) : SndE K W false (tBM K T rd to t) (vMutP T m rp ra) := by
  intro S AA H σ ρ φ ε Q r l hQ h
  refine ho S AA H σ ρ _ ε _ r l (fun v H1 o ρ1 A1 h1 r1 x1 p1 => ?_) h
  obtain ⟨a0, q0, t0, eo, eg, h0, h1⟩ := atN_of h1
  subst eo
  have ev : v = .ref a0 := by
    obtain ⟨x, A, e1, e2⟩ := r1.get (i := 0) rfl
    cases e1
    cases e2
    rfl
  subst ev
  obtain ⟨A2, r2, s2⟩ := r1.drop1
  refine ⟨?_, ?_⟩
  · obtain ⟨A, hc⟩ := r2.cellP eg
    cases hc with
    | nm n hc => exact ownT_tyO hc h0
  refine ha S A2 H1 σ ρ1 _ ε _ r2 (l.step (x1.sub s2)) (fun vs H3 os ρ3 A3 h3 hl r3 x3 p3 => ?_) h1
  obtain ⟨a, q, t, eo, eg3, h4⟩ := atN_of h3
  cases eo
  have len : σ.length = ρ3.length := by
    have a := r3.len
    simp only [List.length_append, List.length_map] at a
    omega
  cases q0 with
  | nil => cases eg3
  | cons i q =>
    have up : ∀ (os : List O) (ρ : Env), getP (os ++ ρ) ((os.length + i) :: q) = getP ρ (i :: q) := by
      intro os ρ
      rw [getP, getP, List.getElem?_append_right (Nat.le_add_right _ _), Nat.add_sub_cancel_left]
    have ups : ∀ (os : List O) (ρ : Env) (u : O), setP (os ++ ρ) ((os.length + i) :: q) u = os ++ setP ρ (i :: q) u := by
      intro os ρ u
      rw [setP, setP, List.getElem?_append_right (Nat.le_add_right _ _), Nat.add_sub_cancel_left]
      cases ρ[i]? with
      | none => rfl
      | some o =>
        simp only []
        rw [List.set_append_right _ _ (Nat.le_add_right _ _), Nat.add_sub_cancel_left]
    obtain ⟨v, A4, r4, s4⟩ := r3.outP (q := (os.length + i) :: q) (u := .nm a0 t) (by rw [up]; exact eg3) (by intro z; cases z)
    rw [ups] at r4
    have r4' : RelA K S A4 H3 (some (.ref a0) :: (vs.map some ++ σ)) (t :: (os ++ setP ρ3 (i :: q) (.pin (.ref a0)))) ∧ v = .ref a0 := by
      have h0 := r4.rp
      have nd := r4.nd
      have ns := r4.ns
      have st := r4.st
      generalize hB : (fun a => S a ∨ a ∈ A4) = B at h0
      cases h0 with
      | cons c1 c2 =>
        cases c1 with
        | nm n c1 => exact ⟨⟨by rw [hB]; exact .cons c1 c2, nd, ns, st⟩, rfl⟩
    obtain ⟨r5, ev⟩ := r4'
    refine hm S A4 H3 (.ref a0) vs t os σ (setP ρ3 (i :: q) (.pin (.ref a0))) _ _ r5 hl (fun res H' ores o' AA' hk r6 x6 => ?_) h4
    obtain ⟨nb, hk⟩ := hk
    have r7 : RelA K S AA' H' (some (.ref a0) :: some res :: σ) (.nm a0 o' :: ores :: (setP ρ3 (i :: q) (.pin (.ref a0))).map kill) := by
      have h0 := r6.rp
      have nd := r6.nd
      have ns := r6.ns
      have st := r6.st
      generalize hB : (fun a => S a ∨ a ∈ AA') = B at h0
      cases h0 with
      | cons c1 c2 => exact ⟨by rw [hB]; exact .cons (.nm nb c1) c2, nd, ns, st⟩
    obtain ⟨pe, pg, _⟩ := put_eq (w := .pin (.ref a0)) (z := .nm a0 o') eg3 rfl rfl
    obtain ⟨A8, r8, s8⟩ := r7.inP (q := (i + 1) :: q) (by rw [getP_up]; exact pg) rfl
    rw [setP_up, pe] at r8
    exact hQ res H' ores _ A8 hk r8 (((x1.sub s2).trans (x3.sub s4)).trans (x6.sub s8)) (fun e => by cases e)
section
variable {X : Cx} {W : WX} {p pp : Bool} {o e : Expr} {es : List Expr} {ra : VA} {rp : VE} {name : Str} {apos cpos : Pos} {T id : String} {rd : V → List V → Hp → L2.VK → Prop} {m : VM}
theorem ev_mutP (pa : PlainAttrs T) (slot : Slot T name id) (hty : typeOf (.builtin id) = pure (.type "method_descriptor")) (hm : MtR X id rd) (hs : MSrv X.K rd m) (ho : Ev X W pp o rp) (ha : Av X W p (e :: es) ra)
    (hbase : attributeBase o name X.env (eval o X.env) = eval o X.env := by rfl)
    (hfew : ((PySem.backTo cpos (starEach (e :: es) X.env)).all (fun x => !x.1) && (backToKw cpos (keywordEach [] X.env)).all (fun x => x.1.isSome)
      && decide ((e :: es).length + ([] : List Keyword).length + (if ([] : List Keyword).isEmpty then 0 else 1) < 30)) = true := by rfl)
    (hline : (apos.endLine == cpos.line) = true := by rfl) (hst : starEach (e :: es) X.env = (false, eval e X.env) :: starEach es X.env := by rfl) (hplain : (PySem.backTo cpos (starEach es X.env)).any (·.1) = false := by rfl) :
    Ev X W false (.Call (.Attribute o name apos) (e :: es) [] cpos) (vMutP T m rp ra) := by
  obtain ⟨t, ht, st⟩ := ha.ex
  obtain ⟨t0, ht0, st0⟩ := ho.ex
  exact ⟨_, pe_bm pa slot hty hm ht0 ht hbase hfew hline hst hplain, snd_mutP hs st0 st⟩
theorem ev_mutP0 (pa : PlainAttrs T) (slot : Slot T name id) (hty : typeOf (.builtin id) = pure (.type "method_descriptor")) (hm : MtR X id rd) (hs : MSrv X.K rd m) (ho : Ev X W pp o rp)
    (hbase : attributeBase o name X.env (eval o X.env) = eval o X.env := by rfl) (hline : (apos.endLine == cpos.line) = true := by rfl) : Ev X W false (.Call (.Attribute o name apos) [] [] cpos) (vMutP T m rp vNil) := by
  obtain ⟨t0, ht0, st0⟩ := ho.ex
  exact ⟨_, pe_bm0 pa slot hty hm ht0 hbase hline, snd_mutP hs st0 (snd_nil (W := W))⟩
end
end VL

/-! named things lent to a call, to be read only; walks over lists whose items are names -/
namespace VL
open PySem PySem.Spec L2

mutual
/-- nothing but scalars and tuples of such -/
def clD : D → Bool
  | .sc _ => true
  | .nd .tup ds => clDs ds
  | .nd _ _ => false
def clDs : List D → Bool
  | [] => true
  | d :: ds => clD d && clDs ds
end
mutual
def clO : O → Bool
  | .sh d => clD d
  | .ow _ ds => clDs ds
  | .dp _ os => clOs os
  | .nm _ o => clO o
  | .bor _ => false
  | _ => true
def clOs : List O → Bool
  | [] => true
  | o :: os => clO o && clOs os
end
def mutL : Lab → Bool
  | .lst => true
  | .dk _ => true
  | .dt _ => true
  | .obj _ _ => true
  | _ => false
mutual
def mutO : O → Bool
  | .ow l _ => mutL l
  | .dp l os => mutL l && mutOs os
  | .nm _ o => mutO o
  | .bor _ => false
  | _ => true
def mutOs : List O → Bool
  | [] => true
  | o :: os => mutO o && mutOs os
end
def MutAt (H : Hp) (a : Addr) : Prop := ∃ l vs h, H a = some h ∧ cellIs l vs h ∧ mutL l = true
section
variable {K : PySem.W.Frag} {H : Hp} {B B' : Addr → Prop}
mutual
theorem RpO.muts : ∀ (o : O) {x : Option V} {A : List Addr}, RpO K H B x o A → mutO o = true → ∀ a ∈ A, MutAt H a
  | .top, _, _, h, _, a, ha => by cases h; cases ha
  | .pin v, _, _, h, _, a, ha => by cases h; cases ha
  | .al b p, _, _, h, _, a, ha => by cases h; cases ha
  | .sh d, _, _, h, _, a, ha => by cases h; cases ha
  | .ow l ds, _, _, h, hm, a, ha => by
    cases h with
    | ow h1 h2 h4 =>
      rw [List.mem_singleton.mp ha]
      exact ⟨l, _, _, h1, h2, hm⟩
  | .dp l os, _, _, h, hm, a, ha => by
    obtain ⟨m1, m2⟩ := and2 (show (mutL l && mutOs os) = true from hm)
    cases h with
    | dp h1 h2 hb h4 =>
      rcases List.mem_cons.mp ha with e | ha
      · rw [e]
        exact ⟨l, _, _, h1, h2, m1⟩
      · exact RpOs.muts os h4 m2 a ha
  | .nm b o, _, _, h, hm, a, ha => by
    cases h with
    | nm h1 h2 => exact RpO.muts o h2 hm a ha
  | .bor o, _, _, _, hm, _, _ => by cases hm
theorem RpOs.muts : ∀ (os : List O) {xs : List (Option V)} {A : List Addr}, RpOs K H B xs os A → mutOs os = true → ∀ a ∈ A, MutAt H a
  | [], _, _, h, _, a, ha => by cases h; cases ha
  | o :: os, _, _, h, hm, a, ha => by
    obtain ⟨m1, m2⟩ := and2 (show (mutO o && mutOs os) = true from hm)
    cases h with
    | cons h1 h2 =>
      rcases List.mem_append.mp ha with ha | ha
      · exact RpO.muts o h1 m1 a ha
      · exact RpOs.muts os h2 m2 a ha
end
mutual
theorem RpS.closed (hb : ∀ a vs, H a = some (.tup vs) → ¬ B a → ¬ B' a) : ∀ (d : D) {v : V}, RpS K H B v d → clD d = true → RpS K H B' v d
  | .sc s, _, h, _ => by cases h; exact .sc s
  | .nd l ds, _, h, hc => by
    cases l with
    | tup =>
      cases h with
      | nd h1 h2 =>
        refine .nd ?_ (RpSs.closed hb ds h2 hc)
        rcases h1 with ⟨nb, u, r, e⟩ | h1
        · rcases e with e | ⟨_, _, _, _, e⟩
          · have e' : u = .tup _ := e
            exact .inl ⟨hb _ _ (e' ▸ r) nb, u, r, .inl e⟩
          · cases e
        · exact .inr h1
    | _ => cases hc
theorem RpSs.closed (hb : ∀ a vs, H a = some (.tup vs) → ¬ B a → ¬ B' a) : ∀ (ds : List D) {vs : List V}, RpSs K H B vs ds → clDs ds = true → RpSs K H B' vs ds
  | [], _, h, _ => by cases h; exact .nil
  | d :: ds, _, h, hc => by
    obtain ⟨m1, m2⟩ := and2 (show (clD d && clDs ds) = true from hc)
    cases h with
    | cons h1 h2 => exact .cons (RpS.closed hb d h1 m1) (RpSs.closed hb ds h2 m2)
end
mutual
theorem RpO.closed (hb : ∀ a vs, H a = some (.tup vs) → ¬ B a → ¬ B' a) : ∀ (o : O) {x : Option V} {A : List Addr}, RpO K H B x o A → clO o = true → RpO K H B' x o A
  | .top, _, _, h, _ => by cases h; exact .top
  | .pin v, _, _, h, _ => by cases h; exact .pin
  | .al b p, _, _, h, _ => by cases h; exact .al
  | .sh d, _, _, h, hc => by
    cases h with
    | sh h1 => exact .sh (h1.closed hb d hc)
  | .ow l ds, _, _, h, hc => by
    cases h with
    | ow h1 h2 h4 => exact .ow h1 h2 (h4.closed hb ds hc)
  | .dp l os, _, _, h, hc => by
    cases h with
    | dp h1 h2 hb' h4 => exact .dp h1 h2 hb' (RpOs.closed hb os h4 hc)
  | .nm b o, _, _, h, hc => by
    cases h with
    | nm h1 h2 => exact .nm h1 (RpO.closed hb o h2 hc)
  | .bor o, _, _, _, hc => by cases hc
theorem RpOs.closed (hb : ∀ a vs, H a = some (.tup vs) → ¬ B a → ¬ B' a) : ∀ (os : List O) {xs : List (Option V)} {A : List Addr}, RpOs K H B xs os A → clOs os = true → RpOs K H B' xs os A
  | [], _, _, h, _ => by cases h; exact .nil
  | o :: os, _, _, h, hc => by
    obtain ⟨m1, m2⟩ := and2 (show (clO o && clOs os) = true from hc)
    cases h with
    | cons h1 h2 => exact .cons (RpO.closed hb o h1 m1) (RpOs.closed hb os h2 m2)
end
end
/-! ### the call -/
def argA : List (Option Nat) → List O → Option (List O)
  | some _ :: sl, o :: os => match isBor o, argA sl os with
    | false, some us => some (o :: us)
    | _, _ => none
  | none :: sl, .al a q :: os => match argA sl os with
    | some us => some (.al a q :: us)
    | none => none
  | none :: sl, o :: os => match fz o, argA sl os with
    | some d, some us => some (.sh d :: us)
    | _, _ => none
  | [], [] => some []
  | _, _ => none
def lendP (ρ : Env) : List O → (List O → Prop) → Prop
  | [], k => k []
  | .al a q :: us, k => match getP ρ q with
    | some (.nm b t) => (b = a ∧ mutO t = true) ∧ vw t fun d => lendP ρ us fun ws => k (.sh d :: ws)
    | _ => False
  | o :: us, k => lendP ρ us fun ws => k (o :: ws)
def clX (e : Exc) : Prop := match e.f with
  | none => True
  | some (_, .sc _) => True
  | _ => False
def vCallP (sl : List (Option Nat)) (dv : List D) (sp : VSp) (ra : VA) : VE := fun ρ φ ε => ra ρ (fun os ρ1 => match argA sl (fill sl os ρ1) with
  | some us1 => lendP (emptied sl ρ1) us1 fun us => sp (us ++ dv.map .sh) (fun o outs => (clO o = true ∧ clOs outs = true) ∧ φ o (backTo (lentOf sl) outs (killAll sl (emptied sl ρ1)))) (fun e outs => (clX e ∧ clOs outs = true) ∧ ε e (backTo (lentOf sl) outs (killAll sl (emptied sl ρ1))))
  | none => False) ε
section
variable {K : PySem.W.Frag} {S : Addr → Prop} {AA : List Addr} {H : Hp}
theorem lend_ok {S : Addr → Prop} {T A : List Addr} {σ : List (Option V)} {ρ : Env} (f2 : RpOs K H (fun a => S a ∨ a ∈ T ++ A) σ ρ A) : ∀ (us1 : List O) {xs : List (Option V)} {T1 : List Addr} {k : List O → Prop}, RpOs K H (fun a => S a ∨ a ∈ T ++ A) xs us1 T1 → lendP ρ us1 k →
    ∃ (us : List O) (Ab : List Addr), k us ∧ (∀ a ∈ Ab, a ∈ A ∧ MutAt H a) ∧ us.length = us1.length ∧ ∀ B', (∀ a, B' a → S a ∨ a ∈ T ++ A) → (∀ a ∈ Ab, ¬ B' a) → RpOs K H B' xs us T1
  | [], xs, T1, k, h, hk => by
    cases h
    exact ⟨[], [], hk, fun a ha => (by cases ha), rfl, fun B' _ _ => .nil⟩
  | o :: us1, xs, T1, k, h, hk => by
    cases h with
    | @cons x _ xs' _ A0 A1 h1 h2 =>
      have other : lendP ρ us1 (fun ws => k (o :: ws)) → ∃ (us : List O) (Ab : List Addr), k us ∧ (∀ a ∈ Ab, a ∈ A ∧ MutAt H a) ∧ us.length = (o :: us1).length ∧ ∀ B', (∀ a, B' a → S a ∨ a ∈ T ++ A) → (∀ a ∈ Ab, ¬ B' a) → RpOs K H B' (x :: xs') us (A0 ++ A1) := by
        intro hk
        obtain ⟨us, Ab, g1, g2, g3, g4⟩ := lend_ok f2 us1 h2 hk
        exact ⟨o :: us, Ab, g1, g2, by rw [List.length_cons, g3, List.length_cons], fun B' b1 b2 => .cons (RpO.pure (Keep.here b1) (Same.refl H) _ h1) (g4 B' b1 b2)⟩
      cases o with
      | al a q =>
        have hk0 : match getP ρ q with
          | some (.nm b t) => (b = a ∧ mutO t = true) ∧ vw t fun d => lendP ρ us1 fun ws => k (.sh d :: ws)
          | _ => False := hk
        split at hk0
        next b t eg =>
          obtain ⟨⟨rfl, hm⟩, hk1⟩ := hk0
          obtain ⟨d, ed, hk2⟩ := vw_of hk1
          obtain ⟨us, Ab, g1, g2, g3, g4⟩ := lend_ok f2 us1 h2 hk2
          obtain ⟨y, Au, B1, B2, eA, hu, _⟩ := f2.placeP eg
          cases h1
          cases hu with
          | nm nb hu =>
            refine ⟨.sh d :: us, Au ++ Ab, g1, fun a ha => ?_, by rw [List.length_cons, g3, List.length_cons], fun B' b1 b2 => ?_⟩
            · rcases List.mem_append.mp ha with ha | ha
              · exact ⟨by rw [eA]; exact List.mem_append_left _ (List.mem_append_right _ ha), RpO.muts t hu hm a ha⟩
              · exact g2 a ha
            · exact RpOs.cons (A := []) (.sh (RpO.frozen b1 t nb hu ed fun a ha => b2 a (List.mem_append_left _ ha))) (g4 B' b1 fun a ha => b2 a (List.mem_append_right _ ha))
        · exact hk0.elim
      | _ => exact other hk
theorem argA_len : ∀ (sl : List (Option Nat)) (os us : List O), argA sl os = some us → us.length = os.length
  | [], [], _, e => by cases e; rfl
  | [], _ :: _, _, e => by cases e
  | some _ :: _, [], _, e => by cases e
  | none :: _, [], _, e => by cases e
  | some i :: sl, o :: os, us, e => by
    have e0 : (match isBor o, argA sl os with | false, some us => some (o :: us) | _, _ => none) = some us := e
    cases e1 : isBor o with
    | true => rw [e1] at e0; cases e0
    | false =>
      cases e2 : argA sl os with
      | none => rw [e1, e2] at e0; cases e0
      | some us' =>
        rw [e1, e2] at e0
        cases e0
        rw [List.length_cons, List.length_cons, argA_len sl os us' e2]
  | none :: sl, o :: os, us, e => by
    have other : (match fz o, argA sl os with | some d, some us => some (.sh d :: us) | _, _ => none) = some us → us.length = (o :: os).length := by
      intro e0
      cases e1 : fz o with
      | none => rw [e1] at e0; cases e0
      | some d =>
        cases e2 : argA sl os with
        | none => rw [e1, e2] at e0; cases e0
        | some us' =>
          rw [e1, e2] at e0
          cases e0
          rw [List.length_cons, List.length_cons, argA_len sl os us' e2]
    cases o with
    | al a q =>
      have e0 : (match argA sl os with | some us => some (.al a q :: us) | none => none) = some us := e
      cases e2 : argA sl os with
      | none => rw [e2] at e0; cases e0
      | some us' =>
        rw [e2] at e0
        cases e0
        rw [List.length_cons, List.length_cons, argA_len sl os us' e2]
    | _ => exact other e
theorem argA_none {B : Addr → Prop} : ∀ (sl : List (Option Nat)) (os us : List O) {xs : List (Option V)} {T : List Addr}, lentOf sl = [] → argA sl os = some us → RpOs K H B xs us T → T = []
  | [], [], _, _, _, _, e, r => by cases e; cases r; rfl
  | [], _ :: _, _, _, _, _, e, _ => by cases e
  | some _ :: _, _, _, _, _, hl, _, _ => by cases hl
  | none :: _, [], _, _, _, _, e, _ => by cases e
  | none :: sl, o :: os, us, xs, T, hl, e, r => by
    have other : (match fz o, argA sl os with | some d, some us => some (.sh d :: us) | _, _ => none) = some us → T = [] := by
      intro e0
      cases e1 : fz o with
      | none => rw [e1] at e0; cases e0
      | some d =>
        cases e2 : argA sl os with
        | none => rw [e1, e2] at e0; cases e0
        | some us' =>
          rw [e1, e2] at e0
          cases e0
          cases r with
          | cons r1 r2 =>
            cases r1
            rw [argA_none sl os us' hl e2 r2]
            rfl
    cases o with
    | al a q =>
      have e0 : (match argA sl os with | some us => some (.al a q :: us) | none => none) = some us := e
      cases e2 : argA sl os with
      | none => rw [e2] at e0; cases e0
      | some us' =>
        rw [e2] at e0
        cases e0
        cases r with
        | cons r1 r2 =>
          cases r1
          rw [argA_none sl os us' hl e2 r2]
          rfl
    | _ => exact other e
theorem RelA.argdA : ∀ (sl : List (Option Nat)) {pre : List (Option V)} {up : List O} {xs : List (Option V)} {os us : List O} {ρ : Env} {AA : List Addr}, RelA K S AA H (pre ++ xs) (up ++ (os ++ ρ)) → pre.length = up.length → argA sl os = some us →
    ∃ AA', RelA K S AA' H (pre ++ xs) (up ++ (us ++ ρ)) ∧ ∀ a ∈ AA', a ∈ AA
  | [], pre, up, xs, [], us, ρ, AA, r, _, e => by
    cases e
    exact ⟨AA, r, fun _ h => h⟩
  | [], _, _, _, _ :: _, _, _, _, _, _, e => by cases e
  | some _ :: _, _, _, _, [], _, _, _, _, _, e => by cases e
  | none :: _, _, _, _, [], _, _, _, _, _, e => by cases e
  | s :: sl, pre, up, xs, o :: os, us, ρ, AA, r, hp, e => by
    obtain ⟨x, xs', ex⟩ : ∃ x xs', xs = x :: xs' := by
      have l := r.len
      simp only [List.length_append, List.length_cons] at l
      cases xs with
      | nil => simp only [List.length_nil] at l; omega
      | cons x xs' => exact ⟨x, xs', rfl⟩
    subst ex
    have same : ∀ us', argA sl os = some us' → us = o :: us' → ∃ AA', RelA K S AA' H (pre ++ x :: xs') (up ++ (us ++ ρ)) ∧ ∀ a ∈ AA', a ∈ AA := by
      intro us' e2 e3
      subst e3
      have r0 : RelA K S AA H ((pre ++ [x]) ++ xs') ((up ++ [o]) ++ (os ++ ρ)) := by simpa [List.append_assoc] using r
      obtain ⟨A1, r1, s1⟩ := RelA.argdA sl r0 (by simp [hp]) e2
      exact ⟨A1, by simpa [List.append_assoc] using r1, s1⟩
    have frz : (match fz o, argA sl os with | some d, some us => some (.sh d :: us) | _, _ => none) = some us → ∃ AA', RelA K S AA' H (pre ++ x :: xs') (up ++ (us ++ ρ)) ∧ ∀ a ∈ AA', a ∈ AA := by
      intro e0
      cases e1 : fz o with
      | none => rw [e1] at e0; cases e0
      | some d =>
        cases e2 : argA sl os with
        | none => rw [e1, e2] at e0; cases e0
        | some us' =>
          rw [e1, e2] at e0
          cases e0
          obtain ⟨A0, r00, s0⟩ := r.freezeAt (j := up.length) (o := o) (d := d) (by rw [List.getElem?_append_right (Nat.le_refl _), Nat.sub_self]; rfl) e1
          rw [List.set_append_right _ _ (Nat.le_refl _), Nat.sub_self] at r00
          have r0 : RelA K S A0 H ((pre ++ [x]) ++ xs') ((up ++ [.sh d]) ++ (os ++ ρ)) := by simpa [List.append_assoc] using r00
          obtain ⟨A1, r1, s1⟩ := RelA.argdA sl r0 (by simp [hp]) e2
          exact ⟨A1, by simpa [List.append_assoc] using r1, fun a ha => s0 a (s1 a ha)⟩
    cases s with
    | some i =>
      have e0 : (match isBor o, argA sl os with | false, some us => some (o :: us) | _, _ => none) = some us := e
      cases e1 : isBor o with
      | true => rw [e1] at e0; cases e0
      | false =>
        cases e2 : argA sl os with
        | none => rw [e1, e2] at e0; cases e0
        | some us' =>
          rw [e1, e2] at e0
          cases e0
          exact same us' e2 rfl
    | none =>
      cases o with
      | al a q =>
        have e0 : (match argA sl os with | some us => some (.al a q :: us) | none => none) = some us := e
        cases e2 : argA sl os with
        | none => rw [e2] at e0; cases e0
        | some us' =>
          rw [e2] at e0
          cases e0
          exact same us' e2 rfl
      | _ => exact frz e
end
theorem mut_not {l : Lab} {vs : List V} {h : HO} (c : cellIs l vs h) (m : mutL l = true) : (∀ us, h ≠ .tup us) ∧ ∀ fs, h ≠ .xd fs := by
  cases l with
  | lst =>
    have e : h = .lst vs := c
    subst e
    exact ⟨fun _ z => (by cases z), fun _ z => (by cases z)⟩
  | dk ks =>
    obtain ⟨_, e⟩ := c
    subst e
    exact ⟨fun _ z => (by cases z), fun _ z => (by cases z)⟩
  | dt ks =>
    obtain ⟨_, e⟩ := c
    subst e
    exact ⟨fun _ z => (by cases z), fun _ z => (by cases z)⟩
  | obj C fs =>
    obtain ⟨_, dx, e⟩ := c
    subst e
    exact ⟨fun _ z => (by cases z), fun _ z => (by cases z)⟩
  | _ => cases m
theorem snd_callP {K : PySem.W.Frag} {W : WX} {p : Bool} {sl : List (Option Nat)} {dv : List Sc} {sp : VSp} {io : List Nat} {n : Nat} {t : TA} {ra : VA} (ha : SndX K W p sl t ra) (hs : slOk sl = true) (hio : io = posOf sl) (hn : n = sl.length + dv.length) :
    SndE K W (p && (lentOf sl).isEmpty) (tCallSD (toSp K n io sp) (dv.map Sc.v) (WE W) t) (vCallP sl (dv.map .sc) sp ra) := by
  intro S AA H σ ρ φ ε Q r l hQ h
  have hnd : (lentOf sl).Nodup := of_decide_eq_true hs
  refine ha S AA H σ ρ _ ε _ r l (fun vs H1 os ρ1 A1 h1 hl hsl r1 x1 p1 => ?_) h
  obtain ⟨A2, r2, s2⟩ := RelA.filled (pre := []) (up := []) sl r1 rfl hl hsl hnd
  have h1' : match argA sl (fill sl os ρ1) with
      | some us1 => lendP (emptied sl ρ1) us1 fun us => sp (us ++ (dv.map .sc).map .sh) (fun o outs => (clO o = true ∧ clOs outs = true) ∧ φ o (backTo (lentOf sl) outs (killAll sl (emptied sl ρ1)))) (fun e outs => (clX e ∧ clOs outs = true) ∧ ε e (backTo (lentOf sl) outs (killAll sl (emptied sl ρ1))))
      | none => False := h1
  cases eA : argA sl (fill sl os ρ1) with
  | none => rw [eA] at h1'; exact h1'.elim
  | some us1 =>
    rw [eA] at h1'
    obtain ⟨A3, r3, s3⟩ := RelA.argdA (pre := []) (up := []) sl r2 rfl eA
    have r3' : RelA K S A3 H1 (vs.map some ++ σ) (us1 ++ emptied sl ρ1) := r3
    have hlu : vs.length = us1.length := by
      rw [argA_len sl _ us1 eA, fill_len, hl]
    obtain ⟨T, A, eT, f1, f2⟩ := r3'.rp.split (by rw [List.length_map, hlu])
    subst eT
    obtain ⟨us, Ab, h2, hAb, hlus, lend⟩ := lend_ok f2 us1 f1 h1'
    obtain ⟨n1, n2, n3⟩ := List.nodup_append.mp r3'.nd
    have hT : ∀ a ∈ T, ¬ S a := fun a ha => r3'.ns a (List.mem_append_left _ ha)
    have hA : ∀ a ∈ A, ¬ S a := fun a ha => r3'.ns a (List.mem_append_right _ ha)
    have sub3 : ∀ a ∈ T ++ A, a ∈ A1 := fun a ha => s2 a (s3 a ha)
    have relC : RelA K (fun a => (S a ∨ a ∈ A) ∧ a ∉ Ab) T H1 (vs.map some) us := by
      refine ⟨lend _ (fun a z => ?_) (fun a ha z => ?_), n1, fun a ha z => ?_, fun a ha => ?_⟩
      · simp only [List.mem_append]
        rcases z with ⟨z | z, _⟩ | z
        · exact .inl z
        · exact .inr (.inr z)
        · exact .inr (.inl z)
      · rcases z with ⟨_, z⟩ | z
        · exact z ha
        · exact n3 a z a (hAb a ha).1 rfl
      · rcases z.1 with z | z
        · exact hT a ha z
        · exact n3 a ha a z rfl
      · rcases ha.1 with ha | ha
        · exact r3'.st a ha
        · exact f2.tracked _ a ha
    have relC2 := relC.scs dv
    rw [← List.map_append] at relC2
    have eD : (dv.map fun s => O.sh (.sc s)) = (dv.map D.sc).map .sh := by rw [List.map_map]; rfl
    rw [eD] at relC2
    -- what is lent comes back as it was
    have abAt : ∀ {T' : List Addr} {H' : Hp}, Ext T H1 T' H' → ∀ a ∈ Ab, ∃ l vs h, H' a = some h ∧ cellIs l vs h ∧ mutL l = true := by
      intro T' H' x' a ha
      obtain ⟨l, vs, h, e1, e2, e3⟩ := (hAb a ha).2
      refine ⟨l, vs, h, ?_, e2, e3⟩
      obtain ⟨h', e4, k⟩ := x'.keep a h e1
      rw [e4, k fun z => n3 a z a (hAb a ha).1 rfl]
    have whole : ∀ {T' : List Addr} {H' : Hp} {ts' : List (Option V)} {us' : List O}, Ext T H1 T' H' → RelA K (fun a => (S a ∨ a ∈ A) ∧ a ∉ Ab) T' H' ts' us' → clOs us' = true → RelA K (fun a => S a ∨ a ∈ A) T' H' ts' us' := by
      intro T' H' ts' us' x' r' hc
      have trk : ∀ a, (S a ∨ a ∈ A) → ∃ u, H1 a = some u := fun a ha => by
        rcases ha with ha | ha
        · exact r3'.st a ha
        · exact f2.tracked _ a ha
      refine ⟨RpOs.closed (fun a vs e nb z => ?_) us' r'.rp hc, r'.nd, fun a ha z => ?_, fun a ha => ?_⟩
      · rcases z with z | z
        · by_cases hab : a ∈ Ab
          · obtain ⟨l, ws, h, e1, e2, e3⟩ := abAt x' a hab
            rw [e] at e1
            cases e1
            exact (mut_not e2 e3).1 _ rfl
          · exact nb (.inl ⟨z, hab⟩)
        · exact nb (.inr z)
      · by_cases hab : a ∈ Ab
        · rcases x'.new a ha with e | e
          · obtain ⟨u, e'⟩ := trk a z
            rw [e] at e'; cases e'
          · rcases z with z | z
            · exact hT a e z
            · exact n3 a e a z rfl
        · exact r'.ns a ha ⟨z, hab⟩
      · obtain ⟨u, e⟩ := trk a ha
        obtain ⟨u', e', _⟩ := x'.keep a u e
        exact ⟨u', e'⟩
    -- how the frame stands behind the call
    have frame : ∀ {T' : List Addr} {H' : Hp} {ts' : List (Option V)} {us' : List O}, Ext T H1 T' H' → RelA K (fun a => S a ∨ a ∈ A) T' H' ts' us' → RelA K S (T' ++ A) H' (ts' ++ σ) (us' ++ killAll sl (emptied sl ρ1)) ∧ Ext AA H (T' ++ A) H' ∧ (lentOf sl = [] → Same H1 H') := by
      intro T' H' ts' us' x' r'
      have hx : Ext AA H (T' ++ A) H' := (x1.sub sub3).trans x'.back
      cases e : lentOf sl with
      | nil =>
        have eT : T = [] := argA_none sl _ us1 e eA f1
        have sm : Same H1 H' := fun a u h => by
          obtain ⟨u', h', k⟩ := x'.keep a u h
          rw [h', k (by rw [eT]; intro z; cases z)]
        refine ⟨RelA.joinR f2 n2 hA (fun a ha hb => n3 a hb a ha rfl) x' r' (.inr ⟨?_, sm⟩), hx, fun _ => sm⟩
        unfold killAll
        rw [e]
      | cons i is =>
        refine ⟨RelA.joinR f2 n2 hA (fun a ha hb => n3 a hb a ha rfl) x' r' (.inl ?_), hx, fun z => by cases z⟩
        unfold killAll
        rw [e]
    have places : ∀ (k i : Nat), (lentOf sl)[k]? = some i → ∃ y, (io.map fun i => (vs ++ dv.map Sc.v)[i]?)[k]? = some y ∧ σ[i]? = some y := fun k i e => by
      obtain ⟨j, h1, h2⟩ := posFrom_get sl 0 k i e
      obtain ⟨v, e1, e2⟩ := hsl.2 j i h2
      refine ⟨some v, ?_, e2⟩
      rw [hio, List.getElem?_map, show (posOf sl)[k]? = some (0 + j) from h1, Nat.zero_add]
      show some ((vs ++ dv.map Sc.v)[j]?) = _
      rw [List.getElem?_append_left (List.getElem?_eq_some_iff.mp e1).1, e1]
    have lio : io.length = (lentOf sl).length := by
      rw [hio]
      exact posFrom_len sl 0
    refine ⟨fun a => (S a ∨ a ∈ A) ∧ a ∉ Ab, T, us ++ (dv.map D.sc).map .sh, _, _, ?_, relC2, h2, fun v H' o outs T' hφ r' x' => ?_, fun cls d H' exc outs T' hε r' x' xr => ?_⟩
    · rw [List.length_append, List.length_map, hn, hsl.1]
    · obtain ⟨⟨c1, c2⟩, hφ⟩ := hφ
      replace r' := whole x' r' (show (clO o && clOs outs) = true by rw [c1, c2]; rfl)
      obtain ⟨r4, x4, sm⟩ := frame x' r'
      have lo : outs.length = (lentOf sl).length := by
        have := r'.len
        simp only [List.length_cons, List.length_map] at this
        omega
      obtain ⟨A5, r5, s5⟩ := RelA.backs (lentOf sl) (pre := [some v]) (up := [o]) r4 rfl (by rw [List.length_map, lio]) lo places
      refine hQ v H' o _ A5 hφ r5 (x4.sub s5) fun e => ?_
      obtain ⟨ea, eb⟩ := and2 e
      have el : lentOf sl = [] := List.isEmpty_iff.mp eb
      have eo : outs = [] := List.length_eq_zero_iff.mp (by rw [lo, el]; rfl)
      refine ⟨?_, Same.trans (p1 ea).2 (sm el)⟩
      rw [el, eo]
      show killAll sl (emptied sl ρ1) = ρ
      unfold killAll
      rw [el, emptied_none sl ρ1 el]
      exact (p1 ea).1
    · obtain ⟨⟨c1, c2⟩, hε⟩ := hε
      replace r' := whole x' r' c2
      obtain ⟨r4, x4, sm⟩ := frame x' r'
      have lo : outs.length = (lentOf sl).length := by
        have := r'.len
        simp only [List.length_map] at this
        omega
      obtain ⟨A5, r5, s5⟩ := RelA.backs (lentOf sl) (pre := []) (up := []) r4 rfl (by rw [List.length_map, lio]) lo places
      refine l cls d H' _ exc A5 r5 (x4.sub s5) ?_ hε
      refine ⟨xr.1, ?_⟩
      have q := xr.2
      cases e : exc.f with
      | none =>
        rw [e] at q
        exact q
      | some pf =>
        obtain ⟨fn, y⟩ := pf
        rw [e] at q
        unfold clX at c1
        rw [e] at c1
        cases y with
        | nd _ _ => exact c1.elim
        | sc s =>
          obtain ⟨a, v, q1, nb, q2, q3⟩ := q
          refine ⟨a, v, q1, fun z => nb ?_, q2, by cases q3; exact .sc s⟩
          have key : S a ∨ a ∈ A → (S a ∨ a ∈ A) ∧ a ∉ Ab := fun z => ⟨z, fun hab => by
            obtain ⟨l, ws, h, e1, e2, e3⟩ := abAt x' a hab
            rw [q2] at e1
            cases e1
            exact (mut_not e2 e3).2 _ rfl⟩
          rcases z with z | z
          · exact .inl (key (.inl z))
          · rcases List.mem_append.mp (s5 _ z) with z | z
            · exact .inr z
            · exact .inl (key (.inr z))
section
variable {X : Cx} {W : WX} {p : Bool} {sl : List (Option Nat)} {dv : List Sc} {ds : List Value} {sp : VSp} {io : List Nat} {k : Nat} {f C : Addr} {fd : FuncData} {ps : List Str} {x m : Str} {pp pos apos : Pos} {e o : Expr} {es : List Expr} {ra : VA} {i : Nat}
/-- f(e, ..), named things lent -/
theorem ev_callP (F : FnV X.prog X.w X.K X.mg X.base k f fd ps io sp) (hr : Room k X.A) (g : X.A.guards = some []) (hm : X.mg x = some (.ref f)) (hk : PySem.W.keepIn X.K (.ref f) = true) (hb : Binds X.K fd ps ds) (hd : Vals (dv.map Sc.v) ds) (tk : Takes X W)
    (ha : Xv X W p sl (e :: es) ra) (hg : Gl X x := by rfl) (hs : slOk sl = true := by rfl) (hio : io = posOf sl := by rfl) (hn : ps.length = sl.length + dv.length := by rfl) (hdb : (x == ("__debug__" : Str)) = false := by decide)
    (he : starEach (e :: es) X.env = (false, eval e X.env) :: starEach es X.env := by rfl) (hpl : (PySem.backTo pos (starEach es X.env)).any (·.1) = false := by rfl) {q_ : Bool} (hq_ : (p && (lentOf sl).isEmpty) = q_ := by rfl) :
    Ev X W q_ (.Call (.Name x pp) (e :: es) [] pos) (vCallP sl (dv.map .sc) sp ra) := by
  subst hq_
  obtain ⟨t, ht, st⟩ := ha.ex
  exact ⟨_, pe_callG F hr g hg hm hk hb hd tk ht hdb he hpl, snd_callP st hs hio hn⟩
end
end VL

/-! the parts of a named thing get names; lists of names walked -/
namespace VL
open PySem PySem.Spec L2

def nameK (f : Nat → Addr) : Nat → List O → List O
  | _, [] => []
  | j, .ow l ds :: os => .nm (f j) (.ow l ds) :: nameK f (j + 1) os
  | j, .dp l ds :: os => .nm (f j) (.dp l ds) :: nameK f (j + 1) os
  | j, o :: os => o :: nameK f (j + 1) os
def isStat : O → Bool
  | .sh _ => true
  | .al _ _ => true
  | _ => false
def statK (q : List Nat) : Nat → List O → Option (List O)
  | _, [] => some []
  | j, .nm b _ :: os => match statK q (j + 1) os with
    | some us => some (.al b (q ++ [j]) :: us)
    | none => none
  | j, .sh d :: os => match statK q (j + 1) os with
    | some us => some (.sh d :: us)
    | none => none
  | j, .al b p :: os => match statK q (j + 1) os with
    | some us => some (.al b p :: us)
    | none => none
  | _, _ => none
def statOf (q : List Nat) : O → Option (List O)
  | .ow .lst ds => some (ds.map .sh)
  | .dp .lst os => statK q 0 os
  | _ => none
section
variable {K : PySem.W.Frag} {H : Hp} {B : Addr → Prop}
def adrV : V → Addr
  | .ref a => a
  | _ => 0
theorem nameK_rp : ∀ (os : List O) (j : Nat) {vs : List V} {A : List Addr}, RpOs K H B (vs.map some) os A → ∃ f : Nat → Addr, (∀ g : Nat → Addr, (∀ i, j ≤ i → g i = f i) → RpOs K H B (vs.map some) (nameK g j os) A) ∧ os.length = vs.length
  | [], j, vs, A, h => by
    cases vs with
    | nil => cases h; exact ⟨fun _ => 0, fun g _ => .nil, rfl⟩
    | cons v vs => cases h
  | o :: os, j, vs, A, h => by
    cases vs with
    | nil => cases h
    | cons v vs =>
      have h' : RpOs K H B (some v :: vs.map some) (o :: os) A := h
      cases h' with
      | @cons _ _ _ _ A0 A1 h1 h2 =>
        obtain ⟨f, hf, hl⟩ := nameK_rp os (j + 1) h2
        refine ⟨fun i => if i = j then adrV v else f i, fun g hg => ?_, by rw [List.length_cons, List.length_cons, hl]⟩
        have hr : RpOs K H B (vs.map some) (nameK g (j + 1) os) A1 := hf g fun i hi => by rw [hg i (by omega)]; exact if_neg (by omega)
        have gj : g j = adrV v := (hg j (Nat.le_refl j)).trans (if_pos rfl)
        cases o with
        | ow l ds =>
          cases h1 with
          | ow c1 c2 c3 =>
            have e : g j = _ := gj
            show RpOs K H B (some _ :: vs.map some) (.nm (g j) (.ow l ds) :: nameK g (j + 1) os) _
            rw [e]
            exact .cons (.nm rfl (.ow c1 c2 c3)) hr
        | dp l ds =>
          cases h1 with
          | dp c1 c2 c3 c4 =>
            have e : g j = _ := gj
            show RpOs K H B (some _ :: vs.map some) (.nm (g j) (.dp l ds) :: nameK g (j + 1) os) _
            rw [e]
            exact .cons (.nm rfl (.dp c1 c2 c3 c4)) hr
        | _ => exact .cons h1 hr
theorem nameK_nb (f : Nat → Addr) : ∀ (os : List O) (j : Nat), os.all (fun o => !isBor o) = true → (nameK f j os).all (fun o => !isBor o) = true
  | [], _, _ => rfl
  | o :: os, j, h => by
    rw [List.all_cons, Bool.and_eq_true] at h
    have ih := nameK_nb f os (j + 1) h.2
    cases o <;> simp only [nameK, List.all_cons, Bool.and_eq_true] <;> exact ⟨by first | rfl | exact h.1, ih⟩
theorem statK_rp (q : List Nat) : ∀ (os : List O) (j : Nat) {us : List O} {vs : List V} {A : List Addr}, RpOs K H B (vs.map some) os A → statK q j os = some us → RpOs K H B (vs.map some) us [] ∧ us.all isStat = true
  | [], j, us, vs, A, h, e => by
    cases e
    cases vs with
    | nil => exact ⟨.nil, rfl⟩
    | cons v vs => cases h
  | o :: os, j, us, vs, A, h, e => by
    cases vs with
    | nil => cases h
    | cons v vs =>
      have h' : RpOs K H B (some v :: vs.map some) (o :: os) A := h
      cases h' with
      | cons h1 h2 =>
        have go : ∀ u : O, (match statK q (j + 1) os with | some us => some (u :: us) | none => none) = some us → RpO K H B (some v) u [] → isStat u = true → RpOs K H B ((v :: vs).map some) us [] ∧ us.all isStat = true := by
          intro u e hu hs
          cases e2 : statK q (j + 1) os with
          | none => rw [e2] at e; cases e
          | some us' =>
            rw [e2] at e
            cases e
            obtain ⟨i1, i2⟩ := statK_rp q os (j + 1) h2 e2
            exact ⟨RpOs.cons (A := []) hu i1, by rw [List.all_cons, hs, i2]; rfl⟩
        cases o with
        | nm b o =>
          cases h1 with
          | nm n h1 => exact go _ e .al rfl
        | sh d =>
          cases h1 with
          | sh h1 => exact go _ e (.sh h1) rfl
        | al b p => cases h1; exact go _ e .al rfl
        | _ => cases e
end
section
variable {K : PySem.W.Frag} {S : Addr → Prop} {AA : List Addr} {H : Hp}
/-- the parts at a place get names -/
theorem RelA.kidded {σ : List (Option V)} {ρ : Env} (r : RelA K S AA H σ ρ) {q : List Nat} {a : Addr} {l : Lab} {os : List O} (e : getP ρ q = some (.nm a (.dp l os))) : ∃ f : Nat → Addr, RelA K S AA H σ (setP ρ q (.nm a (.dp l (nameK f 0 os)))) := by
  obtain ⟨y, Au, A1, A2, eA, hu, q2⟩ := r.rp.placeP e
  cases hu with
  | nm nb hu =>
    cases hu with
    | dp h1 h2 hb h4 =>
      obtain ⟨f, hf, _⟩ := nameK_rp os 0 h4
      have z := q2 (.nm a (.dp l (nameK f 0 os))) _ rfl (.nm rfl (.dp h1 h2 (nameK_nb f os 0 hb) (hf f fun _ _ => rfl)))
      rw [← eA] at z
      exact ⟨f, z, r.nd, r.ns, r.st⟩
/-- the items of a list at a place -/
theorem RelA.statP {σ : List (Option V)} {ρ : Env} (r : RelA K S AA H σ ρ) {q0 q : List Nat} {a : Addr} {t : O} {us : List O} (e : getP ρ q0 = some (.nm a t)) (es : statOf q t = some us) :
    ∃ vs, H a = some (.lst vs) ∧ RpOs K H (fun a => S a ∨ a ∈ AA) (vs.map some) us [] ∧ us.all isStat = true := by
  obtain ⟨A, hc⟩ := r.cellP e
  cases hc with
  | nm n hc =>
    cases t with
    | ow l ds =>
      cases l with
      | lst =>
        cases es
        cases hc with
        | ow h1 h2 h3 =>
          cases h2
          refine ⟨_, h1, h3.pos, ?_⟩
          rw [List.all_eq_true]
          intro x hx
          obtain ⟨d, _, rfl⟩ := List.mem_map.mp hx
          rfl
      | _ => cases es
    | dp l os =>
      cases l with
      | lst =>
        cases hc with
        | dp h1 h2 hb h4 =>
          cases h2
          obtain ⟨i1, i2⟩ := statK_rp q os 0 h4 es
          exact ⟨_, h1, i1, i2⟩
      | _ => cases es
    | _ => cases es
end
def vKids (r : VE) : VE := fun ρ φ ε => r ρ (fun o ρ1 => atN ρ1 o fun a q t => match t with
  | .dp l os => ∀ f : Nat → Addr, φ (.al a q) (setP ρ1 q (.nm a (.dp l (nameK f 0 os))))
  | .ow _ _ => φ (.al a q) ρ1
  | _ => False) ε
theorem snd_kids {K : PySem.W.Frag} {W : WX} {p : Bool} {t : TE} {r : VE} (h : SndE K W p t r) : SndE K W false t (vKids r) := by
  intro S AA H σ ρ φ ε Q rel l hQ hr
  refine h S AA H σ ρ _ ε _ rel l (fun v H' o ρ' AA' hk r' x' p' => ?_) hr
  obtain ⟨a, q, t, eo, eg, hk2⟩ := atN_of hk
  clear hk
  have hk := hk2
  subst eo
  have ev : v = .ref a := by
    obtain ⟨x, A, e1, e2⟩ := r'.get (i := 0) rfl
    cases e1
    cases e2
    rfl
  subst ev
  obtain ⟨A1, r1, s1⟩ := r'.drop1
  split at hk
  next lb os =>
    obtain ⟨f, r2⟩ := r1.kidded eg
    exact hQ _ H' _ _ A1 (hk f) (r2.push .al) (x'.sub s1) (fun e => by cases e)
  next lb ds => exact hQ _ H' _ _ A1 hk (r1.push .al) (x'.sub s1) (fun e => by cases e)
  · exact hk.elim
theorem ev_kids {X : Cx} {W : WX} {p : Bool} {e : Expr} {r : VE} (h : Ev X W p e r) : Ev X W false e (vKids r) := by
  obtain ⟨t, ht, st⟩ := h.ex
  exact ⟨t, ht, snd_kids st⟩
/-! ### slices of a list of names -/
def vSlS (re : VE) (rl rh : VO) : VE := fun ρ φ ε => re ρ (fun o ρ1 => rl ρ1 (fun lo ρ2 => rh ρ2 (fun hi ρ3 => atN ρ3 o fun _ q t => match statOf q t with
  | some us => φ (.dp .lst (cutL us lo hi)) ρ3
  | none => False) ε) ε) ε
theorem RpOs.take_ {K : PySem.W.Frag} {H : Hp} {B : Addr → Prop} {xs : List (Option V)} {us : List O} (h : RpOs K H B xs us []) (n : Nat) : RpOs K H B (xs.take n) (us.take n) [] := by
  induction n generalizing xs us with
  | zero => exact .nil
  | succ n ih =>
    cases us with
    | nil => cases h; exact .nil
    | cons u us =>
      generalize eA : ([] : List Addr) = A at h
      cases h with
      | cons h1 h2 =>
        obtain ⟨e1, e2⟩ := List.append_eq_nil_iff.mp eA.symm
        subst e1 e2
        exact RpOs.cons (A := []) h1 (ih h2)
theorem RpOs.drop_ {K : PySem.W.Frag} {H : Hp} {B : Addr → Prop} {xs : List (Option V)} {us : List O} (h : RpOs K H B xs us []) (n : Nat) : RpOs K H B (xs.drop n) (us.drop n) [] := by
  induction n generalizing xs us with
  | zero => exact h
  | succ n ih =>
    cases us with
    | nil => cases h; exact .nil
    | cons u us =>
      generalize eA : ([] : List Addr) = A at h
      cases h with
      | cons h1 h2 =>
        obtain ⟨e1, e2⟩ := List.append_eq_nil_iff.mp eA.symm
        subst e1 e2
        exact ih h2
theorem RpOs.cut {K : PySem.W.Frag} {H : Hp} {B : Addr → Prop} {vs : List V} {us : List O} (h : RpOs K H B (vs.map some) us []) (lo hi : Option Int) : RpOs K H B ((cutV vs lo hi).map some) (cutL us lo hi) [] := by
  have hl : vs.length = us.length := by
    have := h.length
    rwa [List.length_map] at this
  unfold cutV cutL
  rw [← hl, List.map_take, List.map_drop]
  exact (h.drop_ _).take_ _
theorem stat_nb {us : List O} (h : us.all isStat = true) : us.all (fun o => !isBor o) = true := by
  rw [List.all_eq_true] at h ⊢
  intro x hx
  have := h x hx
  cases x <;> first | rfl | cases this
theorem stat_cut {us : List O} (h : us.all isStat = true) (lo hi : Option Int) : (cutL us lo hi).all isStat = true := by
  rw [List.all_eq_true] at h ⊢
  intro x hx
  exact h x (List.mem_of_mem_drop (List.mem_of_mem_take hx))
theorem snd_slS {K : PySem.W.Frag} {W : WX} {p p1 p2 : Bool} {te : TE} {re : VE} {tl th : TO} {rl rh : VO} (he : SndE K W p te re) (hl : SndO K W p1 tl rl) (hh : SndO K W p2 th rh) :
    SndE K W false (tSl (rSlU K) te tl th) (vSlS re rl rh) := by
  intro S AA H σ ρ φ ε Q r l hQ h
  refine he S AA H σ ρ _ ε _ r l (fun v1 H1 o1 ρ1 A1 h1 r1 x1 q1 => ?_) h
  obtain ⟨T, A, eT, r1', J⟩ := RelA.under (ts := [some v1]) (us := [o1]) (xs := σ) (os := ρ1) r1 rfl false
  subst eT
  refine hl _ A H1 σ ρ1 _ ε _ r1' (l.step x1).under (fun lo H2 ρ2 A2 h2 r2 x2 q2 => ?_) h1
  refine hh _ A2 H2 σ ρ2 _ ε _ r2 ((l.step x1).under.step x2) (fun hi H3 ρ3 A3 h3 r3 x3 q3 => ?_) h2
  obtain ⟨r4, x4⟩ := J A3 H3 σ ρ3 (x2.trans x3) r3 fun e => by cases e
  obtain ⟨a, q, t, eo, eg, h4⟩ := atN_of h3
  subst eo
  split at h4
  next us es =>
    have ev : v1 = .ref a := by
      obtain ⟨x, A, e1, e2⟩ := r1.get (i := 0) rfl
      cases e1
      cases e2
      rfl
    subst ev
    obtain ⟨A5, r5, s5⟩ := RelA.drop1 (xs := σ) (os := ρ3) r4
    obtain ⟨vs, e1, hp, hs⟩ := r5.statP eg es
    refine .inl (.inl ⟨a, vs, rfl, .inl (.inl e1), fun z hz => ?_⟩)
    have r6 : RelA K S A5 H3 ((cutV vs lo hi).map some ++ σ) (cutL us lo hi ++ ρ3) := ⟨RpOs.app (A := []) (hp.cut lo hi) r5.rp, r5.nd, r5.ns, r5.st⟩
    have hlen : (cutV vs lo hi).length = (cutL us lo hi).length := by
      have := (hp.cut lo hi).length
      rwa [List.length_map] at this
    obtain ⟨r7, x7, s7⟩ := RelA.newD (l := .lst) r6 hlen (stat_nb (stat_cut hs lo hi)) hz rfl
    exact hQ _ _ _ _ _ h4 r7 (((x1.trans x4).sub s5).trans x7) (fun e => by cases e)
  · exact h4.elim
section
variable {X : Cx} {W : WX} {p p1 p2 : Bool} {e : Expr} {lo hi : Option Expr} {re : VE} {rl rh : VO} {pos pos2 : Pos}
theorem ev_slS (he : Ev X W p e re) (hl : Ov X W p1 lo rl) (hh : Ov X W p2 hi rh) : Ev X W false (.Subscript e (.Slice lo hi none pos2) pos) (vSlS re rl rh) := by
  obtain ⟨t, ht, st⟩ := he.ex
  obtain ⟨tl, htl, stl⟩ := hl.ex
  obtain ⟨th, hth, sth⟩ := hh.ex
  exact ⟨_, pe_slice sl_u ht htl hth, snd_slS st stl sth⟩
end
/-! ### walks: a condition on the slots holds at each turn -/
abbrev VIC := Env → ((Env → Prop) → List O → Env → Prop) → XP → Prop
def ItC (K : PySem.W.Frag) (S : Addr → Prop) (AA1 : List Addr) (H1 : Hp) (J : It) (C : Env → Prop) (us : List O) : Prop := ∀ (H : Hp) (AA : List Addr) (ts : List (Option V)) (us0 : List O) (σ : List (Option V)) (ρ : Env), RelA K S AA H (ts ++ σ) (us0 ++ ρ) → ts.length = us0.length → Ext AA1 H1 AA H → C ρ →
  (∀ (i : Nat) (u : O), us[i]? = some u → J.go i H ∧ ∀ x H', J.yld i H x H' → ∃ AA', RelA K S AA' H' (some x :: (ts ++ σ)) (u :: (us0 ++ ρ)) ∧ Ext AA H AA' H') ∧ J.stop us.length H
def SndIC (K : PySem.W.Frag) (W : WX) (t : TI) (r : VIC) : Prop := ∀ (S : Addr → Prop) (AA : List Addr) (H : Hp) (σ : L2.St) (ρ : Env) (φ : (Env → Prop) → List O → Env → Prop) (ε : XP) (R : It → Hp → Prop), RelA K S AA H σ ρ → LinkE K S AA H W σ ε →
  (∀ J H1 C us ρ1 AA1, φ C us ρ1 → RelA K S AA1 H1 σ ρ1 → Ext AA H AA1 H1 → ItC K S AA1 H1 J C us → R J H1) → r ρ φ ε → t σ H R
structure Ivc (X : Cx) (W : WX) (tg iter : Expr) (r : VIC) : Prop where
  ex : ∃ t, PI X tg iter t ∧ SndIC X.K W t r
def vForC (C : Env → Prop) (g : VG) (rb : VS) : List O → VS
  | [] => fun ρ k _ => C ρ ∧ k.nx ρ
  | u :: us => fun ρ k ε => C ρ ∧ g u ρ fun ρ1 => rb ρ1 { nx := fun ρ2 => vForC C g rb us ρ2 k ε, ct := fun ρ2 => vForC C g rb us ρ2 k ε, rt := k.rt, bk := k.nx } ε
def vForX (ri : VIC) (g : VG) (rb : VS) : VS := fun ρ k ε => ri ρ (fun C us ρ1 => vForC C g rb us ρ1 k ε) ε
section
variable {K : PySem.W.Frag} {W : WX} {p : Bool} {io : List Nat}
theorem snd_forX {t : TI} {ri : VIC} {tg : TG} {g : VG} {tb : TS} {rb : VS} (hi : SndIC K W t ri) (hg : SndG K io tg g) (hb : SndS K W io tb rb) : SndS K W io (tFor t tg tb) (vForX ri g rb) := by
  intro S AA H σ ρ k ε D r l hnx hrt hbk hct h
  refine hi S AA H σ ρ _ ε _ r l.e (fun J H1 C ds ρ1 A1 h1 r1 x1 it => ?_) h
  refine ⟨fun i m σ' H' => m = ds.length - i ∧ i ≤ ds.length ∧ ∃ ρ' AA', RelA K S AA' H' σ' ρ' ∧ Ext A1 H1 AA' H' ∧ StOk io σ σ' ∧ vForC C g rb (ds.drop i) ρ' k ε, ⟨ds.length, by omega, by omega, ρ1, A1, r1, Ext.refl, .refl, h1⟩, ?_⟩
  rintro i m σ2 H2 ⟨rfl, hi, ρ2, A2, r2, x2, so2, h2⟩
  have hC : C ρ2 := by
    cases e : ds.drop i with
    | nil => rw [e] at h2; exact h2.1
    | cons d ds => rw [e] at h2; exact h2.1
  obtain ⟨hgo, hstop⟩ := it H2 A2 [] [] σ2 ρ2 r2 rfl x2 hC
  by_cases hlt : i < ds.length
  · have ed : ds[i]? = some ds[i] := List.getElem?_eq_getElem hlt
    have e2 : ds.drop i = ds[i] :: ds.drop (i + 1) := List.drop_eq_getElem_cons hlt
    rw [e2] at h2
    obtain ⟨go, step⟩ := hgo i _ ed
    refine .inr ⟨go, fun σ' H' => ∃ ρ' AA', RelA K S AA' H' σ' ρ' ∧ Ext A1 H1 AA' H' ∧ StOk io σ σ' ∧ vForC C g rb (ds.drop (i + 1)) ρ' k ε, fun σ' H' ⟨ρ', AA', q1, q2, q3, q4⟩ => ⟨ds.length - (i + 1), by omega, rfl, by omega, ρ', AA', q1, q2, q3, q4⟩, fun y H3 hy => ?_⟩
    obtain ⟨A3, r3, x3⟩ := step y H3 hy
    refine hg S A3 H3 σ2 ρ2 y _ _ _ r3 (fun σ4 H4 ρ4 A4 h4 so4 r4 x4 => ?_) h2.2
    have X4 : Ext A1 H1 A4 H4 := x2.trans (x3.trans x4)
    have SO4 : StOk io σ σ4 := so2.trans so4
    refine hb S A4 H4 σ4 ρ4 { nx := fun ρ2 => vForC C g rb (ds.drop (i + 1)) ρ2 k ε, ct := fun ρ2 => vForC C g rb (ds.drop (i + 1)) ρ2 k ε, rt := k.rt, bk := k.nx } ε _ r4 (l.step SO4 (x1.trans X4)) (fun σ5 H5 ρ5 A5 h5 s5 r5 x5 => ⟨ρ5, A5, r5, X4.trans x5, SO4.trans s5, h5⟩) (fun v σ5 H5 o ρ5 A5 h5 s5 r5 x5 => hrt v σ5 H5 o ρ5 A5 h5 (SO4.trans s5) r5 (x1.trans (X4.trans x5)))
      (fun σ5 H5 ρ5 A5 h5 s5 r5 x5 => hnx σ5 H5 ρ5 A5 h5 (SO4.trans s5) r5 (x1.trans (X4.trans x5))) (fun σ5 H5 ρ5 A5 h5 s5 r5 x5 => ⟨ρ5, A5, r5, X4.trans x5, SO4.trans s5, h5⟩) h4
  · have e : i = ds.length := by omega
    subst e
    rw [List.drop_length] at h2
    exact .inl ⟨hstop, hnx σ2 H2 ρ2 A2 h2.2 so2 r2 (x1.trans x2)⟩
end
section
variable {X : Cx} {W : WX} {p : Bool} {io : List Nat} {tg e c : Expr} {body : List Stmt} {pos : Pos}
theorem sv_forX {ri : VIC} {g : VG} {rb : VS} (hp : PassesOwn (model X.prog X.w) X.A X.env X.xe) (hc : X.calm = true) (hi : Ivc X W tg e ri) (hg : Gv X io tg g) (hb : Bv X W io body rb) (hs : ∀ x, foldedSetIterable e X.env x = pure x := by intro _; rfl) :
    Sv X W io (.For tg e body [] pos) (vForX ri g rb) := by
  obtain ⟨ti, hti, si⟩ := hi.ex
  obtain ⟨t2, ht2, s2⟩ := hg.ex
  obtain ⟨t3, ht3, s3⟩ := hb.ex
  exact ⟨_, ps_for hp hc hti ht2 ht3 hs, snd_forX si s2 s3⟩
end
section
variable {K : PySem.W.Frag} {S : Addr → Prop} {AA : List Addr} {H : Hp}
theorem RpOs.nilAt {B : Addr → Prop} {xs : List (Option V)} {us : List O} {i : Nat} {u : O} (h : RpOs K H B xs us []) (e : us[i]? = some u) : ∃ x, xs[i]? = some x ∧ RpO K H B x u [] := by
  obtain ⟨x, A', e1, e2, e3⟩ := h.get e
  have : A' = [] := by
    cases A' with
    | nil => rfl
    | cons a A' => exact absurd (e3 a List.mem_cons_self) (by intro z; cases z)
  rw [this] at e2
  exact ⟨x, e1, e2⟩
/-- a list of fixed items, given away to the walk -/
theorem itC_stat {a : Addr} {us : List O} {vs : List V} (hr : RelA K S AA H [] []) (nb : ¬ (S a ∨ a ∈ AA)) (h : H a = some (.lst vs)) (hu : RpOs K H (fun a => S a ∨ a ∈ AA) (vs.map some) us []) (hs : us.all isStat = true) : ItC K S AA H (Itl K a) (fun _ => True) us := by
  intro H2 A2 ts us0 σ ρ r hl x _
  have e2 : H2 a = some (.lst vs) := by rw [x.at_ ⟨_, h⟩ fun z => nb (.inr z), h]
  have k : Keep H H2 (fun a => S a ∨ a ∈ AA) (fun a => S a ∨ a ∈ A2) := x.keeps (T := [])
  have hu2 : RpOs K H2 (fun a => S a ∨ a ∈ A2) (vs.map some) us [] := RpOs.keep k us (stat_nb hs) hu fun a ha => by cases ha
  have hq : SqL K H2 a vs := .inl (.inl e2)
  refine ⟨fun i u e => ?_, vs, hq, ?_⟩
  · obtain ⟨y, ey, hy⟩ := hu2.nilAt e
    rw [List.getElem?_map] at ey
    cases ew : vs[i]? with
    | none => rw [ew] at ey; cases ey
    | some w =>
      rw [ew] at ey
      cases ey
      refine ⟨⟨vs, w, hq, ew⟩, fun z H' hz => ?_⟩
      obtain ⟨eH, hz⟩ := hz
      subst eH
      have : some z = some w := (hz vs hq).symm.trans ew
      cases this
      exact ⟨A2, r.push hy, Ext.refl⟩
  · have := hu2.length
    rw [List.length_map] at this
    exact Nat.le_of_eq this
end
def vSeqS (r : VE) : VIC := fun ρ φ ε => r ρ (fun o ρ' => match o with
  | .dp .lst us => us.all isStat = true ∧ φ (fun _ => True) us ρ'
  | _ => False) ε
def stP (a : Addr) (q : List Nat) (us : List O) (ρ : Env) : Prop := match getP ρ q with
  | some (.nm b t) => b = a ∧ statOf q t = some us
  | _ => False
def vSeqP (r : VE) : VIC := fun ρ φ ε => r ρ (fun o ρ' => atN ρ' o fun a q t => match statOf q t with
  | some us => φ (stP a q us) us ρ'
  | none => False) ε
section
variable {X : Cx} {W : WX} {p : Bool} {tg e : Expr} {r : VE} {ra : VA} {pp pos : Pos}
theorem ivc_stat (he : Ev X W p e r) : Ivc X W tg e (vSeqS r) := by
  obtain ⟨t, ht, st⟩ := he.ex
  refine ⟨_, pi_list ht, fun S AA H σ ρ φ ε R rel l hR h => ?_⟩
  refine st S AA H σ ρ _ ε _ rel l (fun v H1 o ρ1 A1 h1 r1 x1 p1 => ?_) h
  split at h1
  next us =>
    obtain ⟨hs, h1⟩ := h1
    have h0 := r1.rp
    have nd := r1.nd
    have ns := r1.ns
    have st1 := r1.st
    generalize hB : (fun a => S a ∨ a ∈ A1) = B at h0
    cases h0 with
    | @cons _ _ _ _ A0 A2 c1 c2 =>
      cases c1 with
      | @dp a _ _ vs _ A3 d1 d2 d3 d4 =>
        cases d2
        have sub : ∀ b ∈ A2, b ∈ a :: A3 ++ A2 := fun b hb => List.mem_append_right _ hb
        have na : a ∉ A2 := fun z => (List.nodup_append.mp nd).2.2 a List.mem_cons_self a z rfl
        have r2 : RelA X.K S A2 H1 σ ρ1 := ⟨RpOs.pure (Keep.here fun b z => by rw [← hB]; exact z.imp_right (sub b)) (Same.refl H1) _ c2, (List.nodup_append.mp nd).2.1, fun b hb => ns b (sub b hb), st1⟩
        have r0 : RelA X.K S A2 H1 [] [] ∨ True := .inr trivial
        have e4 : A3 = [] := by
          have : ∀ {us : List O} {xs : List (Option V)} {A : List Addr}, RpOs X.K H1 B xs us A → us.all isStat = true → A = [] := by
            intro us
            induction us with
            | nil => intro xs A h _; cases h; rfl
            | cons u us ih =>
              intro xs A h hs
              rw [List.all_cons, Bool.and_eq_true] at hs
              cases h with
              | cons h1 h2 =>
                rw [ih h2 hs.2]
                cases u with
                | sh d => cases h1; rfl
                | al b p => cases h1; rfl
                | _ => cases hs.1
          exact this d4 hs
        subst e4
        have hq : SqL X.K H1 a vs := .inl (.inl d1)
        refine ⟨a, rfl, ⟨vs, hq⟩, hR _ H1 _ us ρ1 A2 h1 r2 (x1.sub sub) ?_⟩
        intro H2 AA2 ts us0 σ2 ρ2 rr hl x _
        have nb : ¬ (S a ∨ a ∈ A2) := fun z => by
          rcases z with z | z
          · exact ns a (List.mem_append_left _ List.mem_cons_self) z
          · exact na z
        have e2 : H2 a = some (.lst vs) := by rw [x.at_ ⟨_, d1⟩ fun z => nb (.inr z), d1]
        have d5 : RpOs X.K H1 (fun a => S a ∨ a ∈ A2) (vs.map some) us [] := RpOs.pure (Keep.here fun b z => by rw [← hB]; exact z.imp_right (sub b)) (Same.refl H1) _ d4
        have k : Keep H1 H2 (fun a => S a ∨ a ∈ A2) (fun a => S a ∨ a ∈ AA2) := x.keeps (T := [])
        have hu2 : RpOs X.K H2 (fun a => S a ∨ a ∈ AA2) (vs.map some) us [] := RpOs.keep k us (stat_nb hs) d5 fun a ha => by cases ha
        have hq : SqL X.K H2 a vs := .inl (.inl e2)
        refine ⟨fun i u e => ?_, vs, hq, ?_⟩
        · obtain ⟨y, ey, hy⟩ := hu2.nilAt e
          rw [List.getElem?_map] at ey
          cases ew : vs[i]? with
          | none => rw [ew] at ey; cases ey
          | some w =>
            rw [ew] at ey
            cases ey
            refine ⟨⟨vs, w, hq, ew⟩, fun z H' hz => ?_⟩
            obtain ⟨eH, hz⟩ := hz
            subst eH
            have : some z = some w := (hz vs hq).symm.trans ew
            cases this
            exact ⟨AA2, rr.push hy, Ext.refl⟩
        · have := hu2.length
          rw [List.length_map] at this
          exact Nat.le_of_eq this
  · exact h1.elim
theorem getP_app {us : List O} {ρ : Env} {i : Nat} {q : List Nat} : getP (us ++ ρ) ((us.length + i) :: q) = getP ρ (i :: q) := by
  rw [getP, getP, List.getElem?_append_right (Nat.le_add_right _ _), Nat.add_sub_cancel_left]
theorem RelA.statPU {K : PySem.W.Frag} {S : Addr → Prop} {AA : List Addr} {H : Hp} {ts σ : List (Option V)} {us0 : List O} {ρ : Env} (r : RelA K S AA H (ts ++ σ) (us0 ++ ρ)) {q : List Nat} {a : Addr} {t : O} {us : List O} (e : getP ρ q = some (.nm a t)) (es : statOf q t = some us) :
    ∃ vs, H a = some (.lst vs) ∧ RpOs K H (fun a => S a ∨ a ∈ AA) (vs.map some) us [] ∧ us.all isStat = true := by
  cases q with
  | nil => cases e
  | cons i q => exact r.statP (q0 := (us0.length + i) :: q) (by rw [getP_app]; exact e) es
theorem stP_of {a : Addr} {q : List Nat} {us : List O} {ρ : Env} (h : stP a q us ρ) : ∃ t, getP ρ q = some (.nm a t) ∧ statOf q t = some us := by
  unfold stP at h
  split at h
  next b t e => exact ⟨t, by rw [e, h.1], h.2⟩
  · exact h.elim
theorem itC_place {K : PySem.W.Frag} {S : Addr → Prop} {AA : List Addr} {H : Hp} {a : Addr} {q : List Nat} {us : List O} : ItC K S AA H (Itl K a) (stP a q us) us := by
  intro H2 A2 ts us0 σ ρ r hl x hc
  obtain ⟨t, eg, es⟩ := stP_of hc
  obtain ⟨vs, e1, hp, hs⟩ := r.statPU eg es
  have hq : SqL K H2 a vs := .inl (.inl e1)
  refine ⟨fun i u e => ?_, vs, hq, ?_⟩
  · obtain ⟨y, ey, hy⟩ := hp.nilAt e
    rw [List.getElem?_map] at ey
    cases ew : vs[i]? with
    | none => rw [ew] at ey; cases ey
    | some w =>
      rw [ew] at ey
      cases ey
      refine ⟨⟨vs, w, hq, ew⟩, fun z H' hz => ?_⟩
      obtain ⟨eH, hz⟩ := hz
      subst eH
      have : some z = some w := (hz vs hq).symm.trans ew
      cases this
      exact ⟨A2, r.push hy, Ext.refl⟩
  · have := hp.length
    rw [List.length_map] at this
    exact Nat.le_of_eq this
theorem ivc_place (he : Ev X W p e r) : Ivc X W tg e (vSeqP r) := by
  obtain ⟨t, ht, st⟩ := he.ex
  refine ⟨_, pi_list ht, fun S AA H σ ρ φ ε R rel l hR h => ?_⟩
  refine st S AA H σ ρ _ ε _ rel l (fun v H1 o ρ1 A1 h1 r1 x1 p1 => ?_) h
  obtain ⟨a, q, t, eo, eg, h2⟩ := atN_of h1
  clear h1
  have h1 := h2
  subst eo
  split at h1
  next us es =>
    have ev : v = .ref a := by
      obtain ⟨x, A, e1, e2⟩ := r1.get (i := 0) rfl
      cases e1
      cases e2
      rfl
    subst ev
    obtain ⟨A2, r2, s2⟩ := r1.drop1
    obtain ⟨vs, e1, hp, hs⟩ := r2.statP eg es
    exact ⟨a, rfl, ⟨vs, .inl (.inl e1)⟩, hR _ H1 _ us ρ1 A2 h1 r2 (x1.sub s2) itC_place⟩
  · exact h1.elim
end
end VL

/-! parts of named things: fields, items -/
namespace VL
open PySem PySem.Spec L2

/-- part j of the thing a at q, which is l over os -/
def stepK (ρ : Env) (q : List Nat) (a : Addr) (l : Lab) (os : List O) (j : Nat) (φ : O → Env → Prop) : Prop := match os[j]? with
  | some (.nm b _) => φ (.al b (q ++ [j])) ρ
  | some (.al b p) => φ (.al b p) ρ
  | some (.sh d) => φ (.sh d) ρ
  | some (.ow l' ds) => ∀ b, φ (.al b (q ++ [j])) (setP ρ q (.nm a (.dp l (os.set j (.nm b (.ow l' ds))))))
  | some (.dp l' us) => ∀ b, φ (.al b (q ++ [j])) (setP ρ q (.nm a (.dp l (os.set j (.nm b (.dp l' us))))))
  | _ => False
/-- .. of any thing -/
def stepO (ρ : Env) (q : List Nat) (a : Addr) (t : O) (j : Nat) (φ : O → Env → Prop) : Prop := match t with
  | .dp l os => stepK ρ q a l os j φ
  | .ow _ ds => match ds[j]? with
    | some d => φ (.sh d) ρ
    | none => False
  | _ => False
def labO : O → Option (Lab × Nat)
  | .dp l os => some (l, os.length)
  | .ow l ds => some (l, ds.length)
  | _ => none
section
variable {K : PySem.W.Frag} {S : Addr → Prop} {AA : List Addr} {H : Hp}
theorem RelA.stepO {σ : List (Option V)} {ρ : Env} (r : RelA K S AA H σ ρ) {q : List Nat} {a : Addr} {t : O} {j : Nat} {φ : O → Env → Prop} (e : getP ρ q = some (.nm a t)) (h : stepO ρ q a t j φ) :
    ∃ l hh vs w, (∃ n, labO t = some (l, n) ∧ vs.length = n) ∧ H a = some hh ∧ cellIs l vs hh ∧ vs[j]? = some w ∧ ∃ o ρ', φ o ρ' ∧ RelA K S AA H (some w :: σ) (o :: ρ') := by
  obtain ⟨y, Au, A1, A2, eA, hu, q2⟩ := r.rp.placeP e
  cases hu with
  | nm nb hu =>
    cases t with
    | ow l ds =>
      have h0 : match ds[j]? with
        | some d => φ (.sh d) ρ
        | none => False := h
      cases hu with
      | ow h1 h2 h3 =>
        split at h0
        next d ed =>
          obtain ⟨w, ew, hw⟩ := h3.at_ ed
          exact ⟨l, _, _, w, ⟨_, rfl, h3.len⟩, h1, h2, ew, _, ρ, h0, r.push (.sh hw)⟩
        · exact h0.elim
    | dp l os =>
      have h0 : stepK ρ q a l os j φ := h
      cases hu with
      | @dp _ hh _ vs _ A h1 h2 hb h4 =>
        have hl : vs.length = os.length := by
          have := h4.length
          rwa [List.length_map] at this
        have own : ∀ u, os[j]? = some u → (∀ w A', RpO K H (fun a => S a ∨ a ∈ AA) (some w) u A' → ∃ b, w = .ref b ∧ RpO K H (fun a => S a ∨ a ∈ AA) (some (.ref b)) (.nm b u) A') →
            (∀ b, φ (.al b (q ++ [j])) (setP ρ q (.nm a (.dp l (os.set j (.nm b u)))))) → ∃ l_1 hh_1 vs w, (∃ n, labO (.dp l os) = some (l_1, n) ∧ vs.length = n) ∧ H a = some hh_1 ∧ cellIs l_1 vs hh_1 ∧ vs[j]? = some w ∧ ∃ o ρ', φ o ρ' ∧ RelA K S AA H (some w :: σ) (o :: ρ') := by
          intro u eu hu hk
          obtain ⟨x, B1, A', B2, eB, ex, hc, sw⟩ := h4.set eu
          rw [List.getElem?_map] at ex
          cases ev : vs[j]? with
          | none => rw [ev] at ex; cases ex
          | some w =>
            rw [ev] at ex
            cases ex
            obtain ⟨b, rfl, hn⟩ := hu w A' hc
            have h5 := sw (some (.ref b)) (.nm b u) A' hn
            rw [set_self (by rw [List.getElem?_map, ev]; rfl), ← eB] at h5
            have z := q2 (.nm a (.dp l (os.set j (.nm b u)))) _ rfl (.nm rfl (.dp h1 h2 (all_set hb rfl) h5))
            rw [← eA] at z
            exact ⟨l, hh, vs, _, ⟨_, rfl, hl⟩, h1, h2, ev, _, _, hk b, RelA.push ⟨z, r.nd, r.ns, r.st⟩ .al⟩
        have get : ∀ u, os[j]? = some u → ∃ w A', vs[j]? = some w ∧ RpO K H (fun a => S a ∨ a ∈ AA) (some w) u A' := by
          intro u eu
          obtain ⟨x, A', e1, e2, _⟩ := h4.get eu
          rw [List.getElem?_map] at e1
          cases ev : vs[j]? with
          | none => rw [ev] at e1; cases e1
          | some w =>
            rw [ev] at e1
            cases e1
            exact ⟨w, A', rfl, e2⟩
        unfold VL.stepK at h0
        split at h0
        next b o eu =>
          obtain ⟨w, A', ew, hw⟩ := get _ eu
          cases hw with
          | nm _ _ => exact ⟨l, hh, vs, _, ⟨_, rfl, hl⟩, h1, h2, ew, _, ρ, h0, r.push .al⟩
        next b p eu =>
          obtain ⟨w, A', ew, hw⟩ := get _ eu
          cases hw
          exact ⟨l, hh, vs, _, ⟨_, rfl, hl⟩, h1, h2, ew, _, ρ, h0, r.push .al⟩
        next d eu =>
          obtain ⟨w, A', ew, hw⟩ := get _ eu
          cases hw with
          | sh hs => exact ⟨l, hh, vs, _, ⟨_, rfl, hl⟩, h1, h2, ew, _, ρ, h0, r.push (.sh hs)⟩
        next l' ds eu =>
          refine own _ eu (fun w A' hw => ?_) h0
          cases hw with
          | ow c1 c2 c3 => exact ⟨_, rfl, .nm rfl (.ow c1 c2 c3)⟩
        next l' us eu =>
          refine own _ eu (fun w A' hw => ?_) h0
          cases hw with
          | dp c1 c2 c3 c4 => exact ⟨_, rfl, .nm rfl (.dp c1 c2 c3 c4)⟩
        · exact h0.elim
    | _ => exact (show False from h).elim
end
/-- a[i], a a named list -/
def vPlI (ra rb : VE) : VE := fun ρ φ ε => ra ρ (fun oa ρ1 => rb ρ1 (fun ob ρ2 => atN ρ2 oa fun a q t => match ob with
  | .sh (.sc (.int i)) => match labO t with
    | some (.lst, n) => match ixN n i with
      | some j => stepO ρ2 q a t j φ
      | none => False
    | _ => False
  | _ => False) ε) ε
theorem snd_plI {K : PySem.W.Frag} {W : WX} {pa pb : Bool} {ta tb : TE} {ra rb : VE} (ha : SndE K W pa ta ra) (hb : SndE K W pb tb rb) : SndE K W false (tOp (rIxU K) ta tb) (vPlI ra rb) := by
  intro S AA H σ ρ φ ε Q r l hQ h
  refine ha S AA H σ ρ _ ε _ r l (fun v1 H1 o1 ρ1 A1 h1 r1 x1 p1 => ?_) h
  obtain ⟨T, A, eT, r1', J⟩ := RelA.under (ts := [some v1]) (us := [o1]) (xs := σ) (os := ρ1) r1 rfl false
  subst eT
  refine hb _ A H1 σ ρ1 _ ε _ r1' (l.step x1).under (fun v2 H2 o2 ρ2 A2 h2 r2 x2 p2 => ?_) h1
  obtain ⟨r3, x3⟩ := J A2 H2 (some v2 :: σ) (o2 :: ρ2) x2 r2 fun e => by cases e
  obtain ⟨a, q, t, eo, eg, h3⟩ := atN_of h2
  subst eo
  have ev : v1 = .ref a := by
    obtain ⟨x, A, e1, e2⟩ := r1.get (i := 0) rfl
    cases e1
    cases e2
    rfl
  subst ev
  split at h3
  next i =>
    split at h3
    next n el =>
      split at h3
      next j ej =>
        have e2 : v2 = .int i := by
          obtain ⟨x, A, e1, e2⟩ := r2.get (i := 0) rfl
          cases e1
          cases e2 with
          | sh hs => cases hs; rfl
        obtain ⟨A5, r5, s5⟩ := RelA.dropN (ts := [some (.ref a), some v2]) (us := [kl false (.al a q), .sh (.sc (.int i))]) (xs := σ) (os := ρ2) r3 rfl
        obtain ⟨l, hh, vs, w, ⟨n', el', en⟩, hh1, hh2, hw, o, ρ', hk, r6⟩ := r5.stepO eg h3
        rw [el] at el'
        cases el'
        cases hh2
        refine .inl (.inl ⟨a, vs, i, w, rfl, e2, .inl (.inl hh1), atI_iff.mpr ⟨j, by rw [en]; exact ej, hw⟩, ?_⟩)
        exact hQ w H2 o ρ' A5 hk r6 ((x1.trans x3).sub s5) (fun e => by cases e)
      · exact h3.elim
    · exact h3.elim
  · exact h3.elim
section
variable {X : Cx} {W : WX} {pa pb : Bool} {a b : Expr} {ra rb : VE} {pos : Pos}
theorem ev_plI (hu : X.A.units + 1 < cLine) (ha : Ev X W pa a ra) (hb : Ev X W pb b rb) (hs : PlainIx b := by intro _ _; rfl) : Ev X W false (.Subscript a b pos) (vPlI ra rb) := by
  obtain ⟨ta, ea, sa⟩ := ha.ex
  obtain ⟨tb, eb, sb⟩ := hb.ex
  exact ⟨_, pe_ix (ix_u hu) ea eb hs, snd_plI sa sb⟩
end
/-- e.f, e a named object of the class C with the fields fs; f is the field j -/
def vPlF (C : Addr) (fs : List Str) (j : Nat) (r : VE) : VE := fun ρ φ ε => r ρ (fun o ρ1 => atN ρ1 o fun a q t => match labO t with
  | some (.obj C' fs', _) => (C' = C ∧ fs' = fs) ∧ stepO ρ1 q a t j φ
  | _ => False) ε
theorem lookup_at : ∀ {fs : List Str} {vs : List V} {f : Str} {j : Nat} {w : V}, fs.findIdx? (fun g => f == g) = some j → fs.length = vs.length → vs[j]? = some w → (fs.zip vs).lookup f = some w
  | [], _, _, _, _, e, _, _ => by cases e
  | g :: fs, [], _, _, _, _, el, _ => by cases el
  | g :: fs, v :: vs, f, j, w, e, el, ew => by
    rw [List.findIdx?_cons] at e
    show (match f == g with | true => some v | false => (fs.zip vs).lookup f) = some w
    cases eg : f == g with
    | true =>
      rw [eg] at e
      simp only [if_true] at e
      cases e
      simpa using ew
    | false =>
      rw [eg] at e
      simp only [Bool.false_eq_true, if_false] at e
      cases e2 : fs.findIdx? (fun g => f == g) with
      | none => rw [e2] at e; cases e
      | some i =>
        rw [e2] at e
        cases e
        exact lookup_at e2 (by simpa using el) (by simpa using ew)
theorem snd_plF {K : PySem.W.Frag} {W : WX} {p : Bool} {te : TE} {re : VE} {C : Addr} {fs : List Str} {f : Str} {j : Nat} (c : Cls K C) (n : NoAttr K C f) (hj : fs.findIdx? (fun g => f == g) = some j) (he : SndE K W p te re) : SndE K W false (tUn (rFld K f) te) (vPlF C fs j re) := by
  intro S AA H σ ρ φ ε Q r l hQ h
  refine he S AA H σ ρ _ ε _ r l (fun v1 H1 o1 ρ1 A1 h1 r1 x1 p1 => ?_) h
  obtain ⟨a, q, t, eo, eg, h3⟩ := atN_of h1
  subst eo
  have ev : v1 = .ref a := by
    obtain ⟨x, A, e1, e2⟩ := r1.get (i := 0) rfl
    cases e1
    cases e2
    rfl
  subst ev
  obtain ⟨A2, r2, s2⟩ := r1.drop1
  split at h3
  next C' fs' m el =>
    obtain ⟨⟨rfl, rfl⟩, h3⟩ := h3
    obtain ⟨l, hh, vs, w, ⟨n', el', en⟩, hh1, hh2, hw, o, ρ', hk, r6⟩ := r2.stepO eg h3
    rw [el] at el'
    cases el'
    obtain ⟨cl, dx, rfl⟩ := hh2
    exact ⟨a, _, dx, _, w, rfl, hh1, c, n, lookup_at hj cl hw, hQ w H1 o ρ' A2 hk r6 (x1.sub s2) (fun e => by cases e)⟩
  · exact h3.elim
section
variable {X : Cx} {W : WX} {pa : Bool} {e : Expr} {ra : VE} {f : Str} {pos : Pos} {C : Addr} {fs : List Str} {j : Nat}
theorem ev_plF (c : Cls X.K C) (n : NoAttr X.K C f) (ha : Ev X W pa e ra) (hj : fs.findIdx? (fun g => f == g) = some j := by rfl) (hb : attributeBase e f X.env (eval e X.env) = eval e X.env := by rfl) : Ev X W false (.Attribute e f pos) (vPlF C fs j ra) := by
  obtain ⟨ta, ea, sa⟩ := ha.ex
  exact ⟨_, pe_fld ea hb, snd_plF c n hj sa⟩
/-- .. read only -/
def gFldJ (C : Addr) (fs : List Str) (j : Nat) (a : O) (k : O → Prop) : Prop := match partsOf a with
  | some (.obj C' fs', os) => (C' = C ∧ fs' = fs) ∧ outO os[j]? k
  | _ => False
theorem getF_at : ∀ {fs : List Str} {os : List O} {f : Str} {j : Nat} {o : O}, fs.findIdx? (fun g => f == g) = some j → os[j]? = some o → gFld.getF fs os f = some o
  | [], _, _, _, _, e, _ => by cases e
  | g :: fs, [], _, _, _, _, ew => by simp at ew
  | g :: fs, u :: os, f, j, o, e, ew => by
    rw [List.findIdx?_cons] at e
    unfold gFld.getF
    cases eg : f == g with
    | true =>
      rw [eg] at e
      simp only [if_true] at e ⊢
      cases e
      simpa using ew
    | false =>
      rw [eg] at e
      simp only [Bool.false_eq_true, if_false] at e ⊢
      cases e2 : fs.findIdx? (fun g => f == g) with
      | none => rw [e2] at e; cases e
      | some i =>
        rw [e2] at e
        cases e
        exact getF_at e2 (by simpa using ew)
theorem sr_fldJ {K : PySem.W.Frag} (c : Cls K C) (n : NoAttr K C f) (hj : fs.findIdx? (fun g => f == g) = some j) : Sr1 K (rFld K f) (gFldJ C fs j) := by
  intro S AA H x a xs us k Q r hQ h
  refine sr_fld (f := f) c n S AA H x a xs us k Q r hQ ?_
  unfold gFldJ at h
  unfold gFld
  split at h
  next C' fs' os ep =>
    obtain ⟨⟨rfl, rfl⟩, h⟩ := h
    try rw [ep]
    refine ⟨rfl, ?_⟩
    obtain ⟨p, u, e1, e2, hk⟩ := outO_of h
    rw [getF_at hj e1]
    unfold outO
    simp only [e2]
    exact hk
  · exact h.elim
theorem ev_fldJ (c : Cls X.K C) (n : NoAttr X.K C f) (ha : Ev X W pa e ra) (hj : fs.findIdx? (fun g => f == g) = some j := by rfl) (hb : attributeBase e f X.env (eval e X.env) = eval e X.env := by rfl) : Ev X W pa (.Attribute e f pos) (vUn (gn1 (gFldJ C fs j)) ra) := by
  obtain ⟨ta, ea, sa⟩ := ha.ex
  exact ⟨_, pe_fld ea hb, snd_un (sr_fldJ c n hj).srv sa⟩
end
/-! simp -/
section
variable {ρ : Env} {φ : O → Env → Prop} {φA : List O → Env → Prop} {ε : XP} {k : VK} {ra rb : VE} {aa : VA} {sa : VS} {g : VG} {i j : Nat} {o : O} {os us : List O} {d : D} {ds : List D} {a : Addr} {q : List Nat} {l : Lab} {kO : O → Prop}
@[simp ↓] theorem x_res : vRes ra ρ φ ε = ra ρ (fun o ρ1 => resO ρ1 o fun u => φ u ρ1) ε := (rfl)
@[simp] theorem x_resS : resO ρ (.sh d) kO = kO (.sh d) := (rfl)
@[simp] theorem x_resB : resO ρ (.bor o) kO = kO (.bor o) := (rfl)
@[simp] theorem x_resO : resO ρ (.ow l ds) kO = kO (.ow l ds) := (rfl)
@[simp] theorem x_resD : resO ρ (.dp l os) kO = kO (.dp l os) := (rfl)
@[simp] theorem x_resA : resO ρ (.al a q) kO = match getP ρ q with
  | some (.nm b t) => b = a ∧ kO (.bor (.nm b t))
  | _ => False := (rfl)
def plN (ρ : Env) (i : Nat) (o : O) (φ : O → Env → Prop) : Prop := match o with
  | .nm a _ => φ (.al a [i]) ρ
  | .al a p => φ (.al a p) ρ
  | .sh d => φ (.sh d) ρ
  | .ow l ds => ∀ a, φ (.al a [i]) (ρ.set i (.nm a (.ow l ds)))
  | .dp l os => ∀ a, φ (.al a [i]) (ρ.set i (.nm a (.dp l os)))
  | _ => False
@[simp ↓] theorem x_plN : vPlN i ρ φ ε = plN ρ i (envAt ρ i) φ := (rfl)
@[simp] theorem x_plNn : plN ρ i (.nm a o) φ = φ (.al a [i]) ρ := (rfl)
@[simp] theorem x_plNa : plN ρ i (.al a q) φ = φ (.al a q) ρ := (rfl)
@[simp] theorem x_plNs : plN ρ i (.sh d) φ = φ (.sh d) ρ := (rfl)
@[simp] theorem x_plNo : plN ρ i (.ow l ds) φ = ∀ a, φ (.al a [i]) (ρ.set i (.nm a (.ow l ds))) := (rfl)
@[simp] theorem x_plNd : plN ρ i (.dp l os) φ = ∀ a, φ (.al a [i]) (ρ.set i (.nm a (.dp l os))) := (rfl)
@[simp] theorem x_atN {kk : Addr → List Nat → O → Prop} : atN ρ (.al a q) kk = match getP ρ q with
  | some (.nm b t) => b = a ∧ kk a q t
  | _ => False := (rfl)
@[simp ↓] theorem x_mutP {T : String} {m : VM} : vMutP T m ra aa ρ φ ε = ra ρ (fun o ρ1 => atN ρ1 o fun _ _ t0 => ownT T t0 ∧ aa ρ1 (fun os ρ2 => atN ρ2 o fun a q t => m t os fun res t' => isBor t' = false ∧ φ res (putP ρ2 q (.nm a t'))) ε) ε := (rfl)
@[simp ↓] theorem x_callP {sl : List (Option Nat)} {dv : List D} {sp : VSp} : vCallP sl dv sp aa ρ φ ε = aa ρ (fun os ρ1 => onSome (argA sl (fill sl os ρ1)) fun us1 => lendP (emptied sl ρ1) us1 fun us =>
  sp (us ++ dv.map .sh) (fun o outs => (clO o = true ∧ clOs outs = true) ∧ φ o (backTo (lentOf sl) outs (killAll sl (emptied sl ρ1)))) (fun e outs => (clX e ∧ clOs outs = true) ∧ ε e (backTo (lentOf sl) outs (killAll sl (emptied sl ρ1))))) ε := by
  unfold vCallP
  congr 1
  funext os ρ1
  unfold onSome
  cases argA sl (fill sl os ρ1) <;> rfl
@[simp ↓] theorem x_kids : vKids ra ρ φ ε = ra ρ (fun o ρ1 => atN ρ1 o fun a q t => match t with
  | .dp l os => ∀ f : Nat → Addr, φ (.al a q) (setP ρ1 q (.nm a (.dp l (nameK f 0 os))))
  | .ow _ _ => φ (.al a q) ρ1
  | _ => False) ε := (rfl)
@[simp ↓] theorem x_slS {rl rh : VO} : vSlS ra rl rh ρ φ ε = ra ρ (fun o ρ1 => rl ρ1 (fun lo ρ2 => rh ρ2 (fun hi ρ3 => atN ρ3 o fun _ q t => onSome (statOf q t) fun us => φ (.dp .lst (cutL us lo hi)) ρ3) ε) ε) ε := by
  unfold vSlS
  congr 1; funext o ρ1; congr 1; funext lo ρ2; congr 1; funext hi ρ3; congr 1; funext a q t
  cases statOf q t <;> rfl
@[simp ↓] theorem x_forX {ri : VIC} : vForX ri g sa ρ k ε = ri ρ (fun C us ρ1 => vForC C g sa us ρ1 k ε) ε := (rfl)
@[simp ↓] theorem x_seqP {φC : (Env → Prop) → List O → Env → Prop} : vSeqP ra ρ φC ε = ra ρ (fun o ρ' => atN ρ' o fun a q t => onSome (statOf q t) fun us => φC (stP a q us) us ρ') ε := by
  unfold vSeqP
  congr 1; funext o ρ1; congr 1; funext a q t
  cases statOf q t <;> rfl
@[simp ↓] theorem x_seqS {φC : (Env → Prop) → List O → Env → Prop} : vSeqS ra ρ φC ε = ra ρ (fun o ρ' => match o with
  | .dp .lst us => us.all isStat = true ∧ φC (fun _ => True) us ρ'
  | _ => False) ε := (rfl)
@[simp ↓] theorem x_plI : vPlI ra rb ρ φ ε = ra ρ (fun oa ρ1 => rb ρ1 (fun ob ρ2 => atN ρ2 oa fun a q t => onInt ob fun i => match labO t with
    | some (.lst, n) => onSome (ixN n i) fun j => stepO ρ2 q a t j φ
    | _ => False) ε) ε := by
  unfold vPlI
  congr 1
  funext oa ρ1
  congr 1
  funext ob ρ2
  congr 1
  funext a q t
  rcases ob with _ | ((_ | _ | _ | _ | _ | _) | _) | _ | _ | _ | _ | _ | _ <;> first | rfl | skip
  rename_i i
  show (match labO t with
      | some (.lst, n) => match ixN n i with
        | some j => stepO ρ2 q a t j φ
        | none => False
      | _ => False) = (match labO t with
      | some (.lst, n) => onSome (ixN n i) fun j => stepO ρ2 q a t j φ
      | _ => False)
  rcases labO t with _ | ⟨l, n⟩
  · rfl
  · have h : (match ixN n i with
        | some j => stepO ρ2 q a t j φ
        | none => False) = onSome (ixN n i) fun j => stepO ρ2 q a t j φ := by unfold onSome; cases ixN n i <;> rfl
    cases l <;> first | exact h | rfl
@[simp ↓] theorem x_plF {C : Addr} {fs : List Str} : vPlF C fs j ra ρ φ ε = ra ρ (fun o ρ1 => atN ρ1 o fun a q t => match labO t with
  | some (.obj C' fs', _) => (C' = C ∧ fs' = fs) ∧ stepO ρ1 q a t j φ
  | _ => False) ε := (rfl)
@[simp] theorem x_stepO : stepO ρ q a (.dp l os) j φ = stepK ρ q a l os j φ := (rfl)
@[simp] theorem x_stepW : stepO ρ q a (.ow l ds) j φ = onSome ds[j]? fun d => φ (.sh d) ρ := by
  show (match ds[j]? with
    | some d => φ (.sh d) ρ
    | none => False) = _
  unfold onSome
  rcases ds[j]? <;> rfl
@[simp] theorem x_klA {b : Bool} : kl b (.al a q) = .al a q := by cases b <;> rfl
@[simp] theorem x_klN {b : Bool} : kl b (.nm a o) = .nm a o := by cases b <;> rfl
@[simp] theorem x_kilA : kill (.al a q) = .al a q := (rfl)
@[simp] theorem x_kilN : kill (.nm a o) = .nm a o := (rfl)
end
end VL

/-! enumerate over a named list; names taken off -/
namespace VL
open PySem PySem.Spec L2
mutual
def unN : O → O
  | .dp l os => .dp l (unNs os)
  | .nm _ o => unN o
  | o => o
def unNs : List O → List O
  | [] => []
  | o :: os => unN o :: unNs os
end
section
variable {K : PySem.W.Frag} {H : Hp} {B : Addr → Prop}
theorem unN_nb : ∀ {o : O}, isBor o = false → RpO K H B none .top [] → True := fun _ _ => trivial
mutual
theorem RpO.unN : ∀ (o : O) {x : Option V} {A : List Addr}, RpO K H B x o A → RpO K H B x (VL.unN o) A ∧ (isBor o = false → isBor (VL.unN o) = false)
  | .top, _, _, h => ⟨h, fun e => e⟩
  | .pin v, _, _, h => ⟨h, fun e => e⟩
  | .al a p, _, _, h => ⟨h, fun e => e⟩
  | .sh d, _, _, h => ⟨h, fun e => e⟩
  | .ow l ds, _, _, h => ⟨h, fun e => e⟩
  | .bor o, _, _, h => ⟨h, fun e => e⟩
  | .dp l os, _, _, h => by
    cases h with
    | dp h1 h2 hb h4 =>
      obtain ⟨i1, i2⟩ := RpOs.unN os h4
      exact ⟨.dp h1 h2 (i2 hb) i1, fun _ => rfl⟩
  | .nm a o, _, _, h => by
    cases h with
    | nm h1 h2 =>
      obtain ⟨i1, i2⟩ := RpO.unN o h2
      exact ⟨i1, fun _ => i2 h1⟩
theorem RpOs.unN : ∀ (os : List O) {xs : List (Option V)} {A : List Addr}, RpOs K H B xs os A → RpOs K H B xs (unNs os) A ∧ (os.all (fun o => !isBor o) = true → (unNs os).all (fun o => !isBor o) = true)
  | [], _, _, h => ⟨h, fun e => e⟩
  | o :: os, _, _, h => by
    cases h with
    | cons h1 h2 =>
      obtain ⟨i1, i2⟩ := RpO.unN o h1
      obtain ⟨j1, j2⟩ := RpOs.unN os h2
      refine ⟨.cons i1 j1, fun e => ?_⟩
      rw [List.all_cons, Bool.and_eq_true] at e
      have e1 : isBor o = false := by
        cases z : isBor o with
        | false => rfl
        | true => rw [z] at e; cases e.1
      show (!isBor (VL.unN o) && (unNs os).all _) = true
      rw [i2 e1, j2 e.2]
      rfl
end
end
def vUnN (r : VE) : VE := fun ρ φ ε => r ρ (fun o ρ1 => φ (unN o) ρ1) ε
theorem snd_unN {K : PySem.W.Frag} {W : WX} {p : Bool} {t : TE} {r : VE} (h : SndE K W p t r) : SndE K W p t (vUnN r) := by
  intro S AA H σ ρ φ ε Q rel l hQ hr
  refine h S AA H σ ρ _ ε _ rel l (fun v H' o ρ' AA' hk r' x' p' => ?_) hr
  refine hQ v H' (unN o) ρ' AA' hk ?_ x' p'
  have h0 := r'.rp
  have nd := r'.nd
  have ns := r'.ns
  have st := r'.st
  generalize hB : (fun a => S a ∨ a ∈ AA') = B at h0
  cases h0 with
  | cons c1 c2 => exact ⟨by rw [hB]; exact .cons (RpO.unN o c1).1 c2, nd, ns, st⟩
theorem ev_unN {X : Cx} {W : WX} {p : Bool} {e : Expr} {r : VE} (h : Ev X W p e r) : Ev X W p e (vUnN r) := by
  obtain ⟨t, ht, st⟩ := h.ex
  exact ⟨t, ht, snd_unN st⟩
/-! ### enumerate -/
def numO (i : Nat) : O → O
  | .sh d => .sh (.nd .tup [.sc (.int (i : Nat)), d])
  | u => .dp .tup [.sh (.sc (.int (i : Nat))), u]
def enumS : Nat → List O → List O
  | _, [] => []
  | i, u :: us => numO i u :: enumS (i + 1) us
theorem enumS_len : ∀ {us : List O} {k : Nat}, (enumS k us).length = us.length
  | [], _ => rfl
  | _ :: us, k => by show (enumS (k + 1) us).length + 1 = _; rw [enumS_len]; rfl
theorem enumS_get : ∀ {us : List O} {k i : Nat} {u : O}, (enumS k us)[i]? = some u → ∃ e, us[i]? = some e ∧ u = numO (k + i) e
  | [], _, _, _, e => by simp [enumS] at e
  | x :: us, k, 0, u, e => by
    cases e
    exact ⟨x, rfl, rfl⟩
  | x :: us, k, i + 1, u, e => by
    have e' : (enumS (k + 1) us)[i]? = some u := e
    obtain ⟨y, h1, h2⟩ := enumS_get e'
    refine ⟨y, h1, ?_⟩
    rw [h2, show k + 1 + i = k + (i + 1) by omega]
def vEnumP (ra : VA) : VIC := fun ρ φ ε => ra ρ (fun os ρ' => match os with
  | [o] => atN ρ' o fun a q t => match statOf q t with
    | some us => φ (stP a q us) (enumS 0 us) ρ'
    | none => False
  | _ => False) ε
section
variable {X : Cx} {W : WX} {p : Bool} {tg e : Expr} {r : VE} {ra : VA} {pp pos : Pos}
theorem itC_enum {K : PySem.W.Frag} {S : Addr → Prop} {AA : List Addr} {H : Hp} {a : Addr} {q : List Nat} {us : List O} : ItC K S AA H (Ite K a) (stP a q us) (enumS 0 us) := by
  intro H2 A2 ts us0 σ ρ r hl x hc
  obtain ⟨t, eg, es⟩ := stP_of hc
  obtain ⟨vs, e1, hp, hs⟩ := r.statPU eg es
  have hq : SqL K H2 a vs := .inl (.inl e1)
  refine ⟨fun i u e => ?_, vs, hq, ?_⟩
  · obtain ⟨y0, ey0, eu⟩ := enumS_get e
    obtain ⟨y, ey, hy⟩ := hp.nilAt ey0
    rw [List.getElem?_map] at ey
    cases ew : vs[i]? with
    | none => rw [ew] at ey; cases ey
    | some w =>
      rw [ew] at ey
      cases ey
      refine ⟨⟨vs, w, hq, ew⟩, fun z H' hz => ?_⟩
      obtain ⟨T, u', rfl, hT, eH, hu⟩ := hz
      have : some u' = some w := (hu vs hq).symm.trans ew
      cases this
      subst eH eu
      rw [Nat.zero_add]
      have st : isStat y0 = true := List.all_eq_true.mp hs y0 (List.mem_of_getElem? ey0)
      cases y0 with
      | sh d =>
        cases hy with
        | sh hy =>
          obtain ⟨q1, q2, _⟩ := RelA.newS (l := .tup) (vs := [.int (i : Nat), w]) (ds := [.sc (.int (i : Nat)), d]) r hT rfl (.cons (.sc (.int _)) (.cons hy .nil))
          exact ⟨A2, q1, q2⟩
      | al b p =>
        have r1 : RelA K S A2 H2 (([V.int (i : Nat), w] : List V).map some ++ (ts ++ σ)) ([.sh (.sc (.int (i : Nat))), .al b p] ++ (us0 ++ ρ)) := (r.push hy).sc (.int _)
        obtain ⟨q1, q2, _⟩ := RelA.newD (l := .tup) r1 rfl rfl hT rfl
        exact ⟨_, q1, q2⟩
      | _ => cases st
  · have := hp.length
    rw [List.length_map] at this
    rw [enumS_len]
    exact Nat.le_of_eq this
theorem ivc_enum {elts : List Expr} {kk : Nat} {tpos : Pos} (ha : Av X W p [e] ra) (hm : X.mg "enumerate" = none) (hg : Gl X "enumerate" := by rfl) (hs : starEach [e] X.env = [(false, eval e X.env)] := by rfl) :
    Ivc X W (.Tuple elts kk tpos) (.Call (.Name "enumerate" pp) [e] [] pos) (vEnumP ra) := by
  obtain ⟨t, ht, st⟩ := ha.ex
  refine ⟨_, pi_enum hg hm ht hs, fun S AA H σ ρ φ ε R rel l hR h => ?_⟩
  refine st S AA H σ ρ _ ε _ rel l (fun vs H1 os ρ1 A1 h1 hl r1 x1 p1 => ?_) h
  split at h1
  next o =>
    obtain ⟨v, rfl⟩ := len1 hl
    obtain ⟨a, q, t, eo, eg, h2⟩ := atN_of h1
    clear h1
    subst eo
    split at h2
    next us es =>
      have ev : v = .ref a := by
        obtain ⟨x, A, e1, e2⟩ := r1.get (i := 0) rfl
        cases e1
        cases e2
        rfl
      subst ev
      obtain ⟨A2, r2, s2⟩ := RelA.drop1 (xs := σ) (os := ρ1) r1
      obtain ⟨vs, e1, hp, hs⟩ := r2.statP eg es
      exact ⟨a, vs, rfl, .inl (.inl e1), hR _ H1 _ _ ρ1 A2 h2 r2 (x1.sub s2) itC_enum⟩
    · exact h2.elim
  · exact h1.elim
end
section
variable {ρ : Env} {φ : O → Env → Prop} {ε : XP} {ra : VE} {aa : VA} {o : O} {os us : List O} {d : D} {ds : List D} {l : Lab} {a : Addr} {q : List Nat} {i : Nat}
@[simp ↓] theorem x_unN : vUnN ra ρ φ ε = ra ρ (fun o ρ1 => φ (unN o) ρ1) ε := (rfl)
@[simp] theorem x_unS : unN (.sh d) = .sh d := by simp [unN]
@[simp] theorem x_unO : unN (.ow l ds) = .ow l ds := by simp [unN]
@[simp] theorem x_unM : unN (.nm a o) = unN o := by simp [unN]
@[simp] theorem x_unA : unN (.al a q) = .al a q := by simp [unN]
@[simp] theorem x_unD : unN (.dp l os) = .dp l (unNs os) := by simp [unN]
@[simp ↓] theorem x_enumP {φC : (Env → Prop) → List O → Env → Prop} : vEnumP aa ρ φC ε = aa ρ (fun os ρ' => match os with
  | [o] => atN ρ' o fun a q t => onSome (statOf q t) fun us => φC (stP a q us) (enumS 0 us) ρ'
  | _ => False) ε := by
  unfold vEnumP
  congr 1; funext os ρ'
  split
  · congr 1; funext a q t
    cases statOf q t <;> rfl
  · rfl
end
section
variable {ρ : Env} {o : O} {os us : List O} {d : D} {ds : List D} {l : Lab} {a : Addr} {q : List Nat} {i : Nat} {sl : List (Option Nat)} {kk : List O → Prop}
@[simp] theorem x_argA0 : argA [] [] = some [] := (rfl)
@[simp] theorem x_argAo : argA (some i :: sl) (.ow l ds :: os) = (argA sl os).map fun us => .ow l ds :: us := by
  show (match isBor (O.ow l ds), argA sl os with | false, some us => some (O.ow l ds :: us) | _, _ => none) = _
  cases argA sl os <;> rfl
@[simp] theorem x_argAd : argA (some i :: sl) (.dp l us :: os) = (argA sl os).map fun ws => .dp l us :: ws := by
  show (match isBor (O.dp l us), argA sl os with | false, some ws => some (O.dp l us :: ws) | _, _ => none) = _
  cases argA sl os <;> rfl
@[simp] theorem x_argAa : argA (none :: sl) (.al a q :: os) = (argA sl os).map fun us => .al a q :: us := by
  show (match argA sl os with | some us => some (O.al a q :: us) | none => none) = _
  cases argA sl os <;> rfl
@[simp] theorem x_argAs : argA (none :: sl) (.sh d :: os) = (argA sl os).map fun us => .sh d :: us := by
  show (match fz (O.sh d), argA sl os with | some d, some us => some (O.sh d :: us) | _, _ => none) = _
  cases argA sl os <;> rfl
@[simp] theorem x_argAw : argA (none :: sl) (.ow l ds :: os) = (argA sl os).map fun us => .sh (.nd l ds) :: us := by
  show (match fz (O.ow l ds), argA sl os with | some d, some us => some (O.sh d :: us) | _, _ => none) = _
  cases argA sl os <;> rfl
@[simp] theorem x_lend0 : lendP ρ [] kk = kk [] := (rfl)
@[simp] theorem x_lendS : lendP ρ (.sh d :: us) kk = lendP ρ us fun ws => kk (.sh d :: ws) := (rfl)
@[simp] theorem x_lendO : lendP ρ (.ow l ds :: us) kk = lendP ρ us fun ws => kk (.ow l ds :: ws) := (rfl)
@[simp] theorem x_lendD : lendP ρ (.dp l os :: us) kk = lendP ρ us fun ws => kk (.dp l os :: ws) := (rfl)
@[simp] theorem x_lendA : lendP ρ (.al a q :: us) kk = match getP ρ q with
    | some (.nm b t) => (b = a ∧ mutO t = true) ∧ vw t fun d => lendP ρ us fun ws => kk (.sh d :: ws)
    | _ => False := (rfl)
end
end VL

set_option maxHeartbeats 4000000
namespace VL.L59
open PySem PySem.Spec L2
abbrev PW := PySem.Challenge.pw_conflate_k59_texts_written_and_read
def top (i : Nat) : Stmt := PW.main.body.getD i (.Pass ⟨0, 0, 0, 0⟩)
def clB : Stmt → List Stmt
  | .ClassDef (body := b) .. => b
  | _ => []
def mth (i j : Nat) : Stmt := (clB (top i)).getD j (.Pass ⟨0, 0, 0, 0⟩)
structure Gx (K : PySem.W.Frag) (mg : Str → Option Value) where
  n_all : mg "all" = none
  n_bool : mg "bool" = none
  n_enumerate : mg "enumerate" = none
  n_int : mg "int" = none
  n_isinstance : mg "isinstance" = none
  n_len : mg "len" = none
  n_list : mg "list" = none
  n_max : mg "max" = none
  n_min : mg "min" = none
  n_range : mg "range" = none
  n_repr : mg "repr" = none
  n_str : mg "str" = none
  n_tuple : mg "tuple" = none
  t_LETTERS : Tok
  g_LETTERS : mg "LETTERS" = some (.str "abcdefghijklmnopqrstuvwxyz" t_LETTERS)
  t_CHARACTERS : Tok
  g_CHARACTERS : mg "CHARACTERS" = some (.str "abcdefghijklmnopqrstuvwxyz0123456789_" t_CHARACTERS)
  t_MOST_CHARACTERS : Tok
  g_MOST_CHARACTERS : mg "MOST_CHARACTERS" = some (.int 12 t_MOST_CHARACTERS)
  t_WRITE : Tok
  g_WRITE : mg "WRITE" = some (.str "write" t_WRITE)
  t_SEND : Tok
  g_SEND : mg "SEND" = some (.str "send" t_SEND)
  t_DIGITS : Tok
  g_DIGITS : mg "DIGITS" = some (.str "0123456789" t_DIGITS)
  t_NUMBER_SIGN : Tok
  g_NUMBER_SIGN : mg "NUMBER_SIGN" = some (.str "#" t_NUMBER_SIGN)
  t_PLUS : Tok
  g_PLUS : mg "PLUS" = some (.str "+" t_PLUS)
  t_MARK : Tok
  g_MARK : mg "MARK" = some (.str "!" t_MARK)
  f_is_key : Addr
  fd_is_key : FuncData
  m_is_key : mg "is_key" = some (.ref f_is_key)
  D_is_key : FunD K "is_key" "is_key" (defArgs (top 11)) (defBody (top 11)) (defScope (top 11)) [] [] f_is_key fd_is_key
  f_is_integer : Addr
  fd_is_integer : FuncData
  m_is_integer : mg "is_integer" = some (.ref f_is_integer)
  D_is_integer : FunD K "is_integer" "is_integer" (defArgs (top 12)) (defBody (top 12)) (defScope (top 12)) [.non] [] f_is_integer fd_is_integer
  f_is_write : Addr
  fd_is_write : FuncData
  m_is_write : mg "is_write" = some (.ref f_is_write)
  D_is_write : FunD K "is_write" "is_write" (defArgs (top 13)) (defBody (top 13)) (defScope (top 13)) [] [] f_is_write fd_is_write
  f_is_log : Addr
  fd_is_log : FuncData
  m_is_log : mg "is_log" = some (.ref f_is_log)
  D_is_log : FunD K "is_log" "is_log" (defArgs (top 14)) (defBody (top 14)) (defScope (top 14)) [] [] f_is_log fd_is_log
  f_is_counted : Addr
  fd_is_counted : FuncData
  m_is_counted : mg "is_counted" = some (.ref f_is_counted)
  D_is_counted : FunD K "is_counted" "is_counted" (defArgs (top 15)) (defBody (top 15)) (defScope (top 15)) [] [] f_is_counted fd_is_counted
  f_is_event : Addr
  fd_is_event : FuncData
  m_is_event : mg "is_event" = some (.ref f_is_event)
  D_is_event : FunD K "is_event" "is_event" (defArgs (top 16)) (defBody (top 16)) (defScope (top 16)) [] [] f_is_event fd_is_event
  f_are_events : Addr
  fd_are_events : FuncData
  m_are_events : mg "are_events" = some (.ref f_are_events)
  D_are_events : FunD K "are_events" "are_events" (defArgs (top 17)) (defBody (top 17)) (defScope (top 17)) [] [] f_are_events fd_are_events
  f_is_run : Addr
  fd_is_run : FuncData
  m_is_run : mg "is_run" = some (.ref f_is_run)
  D_is_run : FunD K "is_run" "is_run" (defArgs (top 18)) (defBody (top 18)) (defScope (top 18)) [] [] f_is_run fd_is_run
  f_require_log : Addr
  fd_require_log : FuncData
  m_require_log : mg "require_log" = some (.ref f_require_log)
  D_require_log : FunD K "require_log" "require_log" (defArgs (top 19)) (defBody (top 19)) (defScope (top 19)) [] [] f_require_log fd_require_log
  f_require_counted : Addr
  fd_require_counted : FuncData
  m_require_counted : mg "require_counted" = some (.ref f_require_counted)
  D_require_counted : FunD K "require_counted" "require_counted" (defArgs (top 20)) (defBody (top 20)) (defScope (top 20)) [] [] f_require_counted fd_require_counted
  f_require_run : Addr
  fd_require_run : FuncData
  m_require_run : mg "require_run" = some (.ref f_require_run)
  D_require_run : FunD K "require_run" "require_run" (defArgs (top 21)) (defBody (top 21)) (defScope (top 21)) [] [] f_require_run fd_require_run
  f_format_log : Addr
  fd_format_log : FuncData
  m_format_log : mg "format_log" = some (.ref f_format_log)
  D_format_log : FunD K "format_log" "format_log" (defArgs (top 27)) (defBody (top 27)) (defScope (top 27)) [] [] f_format_log fd_format_log
  f_write_text : Addr
  fd_write_text : FuncData
  m_write_text : mg "write_text" = some (.ref f_write_text)
  D_write_text : FunD K "write_text" "write_text" (defArgs (top 28)) (defBody (top 28)) (defScope (top 28)) [] [] f_write_text fd_write_text
  f_format_counted : Addr
  fd_format_counted : FuncData
  m_format_counted : mg "format_counted" = some (.ref f_format_counted)
  D_format_counted : FunD K "format_counted" "format_counted" (defArgs (top 29)) (defBody (top 29)) (defScope (top 29)) [] [] f_format_counted fd_format_counted
  f_format_run : Addr
  fd_format_run : FuncData
  m_format_run : mg "format_run" = some (.ref f_format_run)
  D_format_run : FunD K "format_run" "format_run" (defArgs (top 30)) (defBody (top 30)) (defScope (top 30)) [] [] f_format_run fd_format_run
  f_words_of : Addr
  fd_words_of : FuncData
  m_words_of : mg "words_of" = some (.ref f_words_of)
  D_words_of : FunD K "words_of" "words_of" (defArgs (top 31)) (defBody (top 31)) (defScope (top 31)) [] [] f_words_of fd_words_of
  f_count_in : Addr
  fd_count_in : FuncData
  m_count_in : mg "count_in" = some (.ref f_count_in)
  D_count_in : FunD K "count_in" "count_in" (defArgs (top 32)) (defBody (top 32)) (defScope (top 32)) [] [] f_count_in fd_count_in
  f_parse_log : Addr
  fd_parse_log : FuncData
  m_parse_log : mg "parse_log" = some (.ref f_parse_log)
  D_parse_log : FunD K "parse_log" "parse_log" (defArgs (top 33)) (defBody (top 33)) (defScope (top 33)) [] [] f_parse_log fd_parse_log
  f_parse_counted : Addr
  fd_parse_counted : FuncData
  m_parse_counted : mg "parse_counted" = some (.ref f_parse_counted)
  D_parse_counted : FunD K "parse_counted" "parse_counted" (defArgs (top 34)) (defBody (top 34)) (defScope (top 34)) [] [] f_parse_counted fd_parse_counted
  f_parse_run : Addr
  fd_parse_run : FuncData
  m_parse_run : mg "parse_run" = some (.ref f_parse_run)
  D_parse_run : FunD K "parse_run" "parse_run" (defArgs (top 35)) (defBody (top 35)) (defScope (top 35)) [] [] f_parse_run fd_parse_run
  f__law_source : Addr
  fd__law_source : FuncData
  m__law_source : mg "_law_source" = some (.ref f__law_source)
  D__law_source : FunD K "_law_source" "_law_source" (defArgs (top 37)) (defBody (top 37)) (defScope (top 37)) [] [] f__law_source fd__law_source
  f__law_draw : Addr
  fd__law_draw : FuncData
  m__law_draw : mg "_law_draw" = some (.ref f__law_draw)
  D__law_draw : FunD K "_law_draw" "_law_draw" (defArgs (top 38)) (defBody (top 38)) (defScope (top 38)) [] [] f__law_draw fd__law_draw
  f__law_some : Addr
  fd__law_some : FuncData
  m__law_some : mg "_law_some" = some (.ref f__law_some)
  D__law_some : FunD K "_law_some" "_law_some" (defArgs (top 39)) (defBody (top 39)) (defScope (top 39)) [] [] f__law_some fd__law_some
  f__law_keys : Addr
  fd__law_keys : FuncData
  m__law_keys : mg "_law_keys" = some (.ref f__law_keys)
  D__law_keys : FunD K "_law_keys" "_law_keys" (defArgs (top 40)) (defBody (top 40)) (defScope (top 40)) [] [] f__law_keys fd__law_keys
  f__law_log : Addr
  fd__law_log : FuncData
  m__law_log : mg "_law_log" = some (.ref f__law_log)
  D__law_log : FunD K "_law_log" "_law_log" (defArgs (top 41)) (defBody (top 41)) (defScope (top 41)) [] [] f__law_log fd__law_log
  f__law_run : Addr
  fd__law_run : FuncData
  m__law_run : mg "_law_run" = some (.ref f__law_run)
  D__law_run : FunD K "_law_run" "_law_run" (defArgs (top 42)) (defBody (top 42)) (defScope (top 42)) [] [] f__law_run fd__law_run
  f__law_counted : Addr
  fd__law_counted : FuncData
  m__law_counted : mg "_law_counted" = some (.ref f__law_counted)
  D__law_counted : FunD K "_law_counted" "_law_counted" (defArgs (top 43)) (defBody (top 43)) (defScope (top 43)) [] [] f__law_counted fd__law_counted
  f__law_text : Addr
  fd__law_text : FuncData
  m__law_text : mg "_law_text" = some (.ref f__law_text)
  D__law_text : FunD K "_law_text" "_law_text" (defArgs (top 44)) (defBody (top 44)) (defScope (top 44)) [] [] f__law_text fd__law_text
  f__law_written : Addr
  fd__law_written : FuncData
  m__law_written : mg "_law_written" = some (.ref f__law_written)
  D__law_written : FunD K "_law_written" "_law_written" (defArgs (top 45)) (defBody (top 45)) (defScope (top 45)) [] [] f__law_written fd__law_written
  f__law_read : Addr
  fd__law_read : FuncData
  m__law_read : mg "_law_read" = some (.ref f__law_read)
  D__law_read : FunD K "_law_read" "_law_read" (defArgs (top 46)) (defBody (top 46)) (defScope (top 46)) [] [] f__law_read fd__law_read
  f__law_right : Addr
  fd__law_right : FuncData
  m__law_right : mg "_law_right" = some (.ref f__law_right)
  D__law_right : FunD K "_law_right" "_law_right" (defArgs (top 47)) (defBody (top 47)) (defScope (top 47)) [] [] f__law_right fd__law_right
  f_law : Addr
  fd_law : FuncData
  m_law : mg "law" = some (.ref f_law)
  D_law : FunD K "law" "law" (defArgs (top 48)) (defBody (top 48)) (defScope (top 48)) [] [] f_law fd_law
  C_InvalidLog : Addr
  mC_InvalidLog : mg "InvalidLog" = some (.ref C_InvalidLog)
  ex_InvalidLog : PySem.W.exmOne K (.ref C_InvalidLog) (.ref C_InvalidLog) = some true
  x_InvalidLog : PySem.W.excIn K C_InvalidLog He.veBase "ValueError.__new__" = true
  k_InvalidLog : PySem.W.keepIn K (.ref C_InvalidLog) = true
  s_InvalidLog : PySem.W.subIn K (.ref C_InvalidLog) (.type "BaseException") = some true
  y_InvalidLog : PySem.W.typeIn K (.ref C_InvalidLog) = some (.type "type")
  C_InvalidRun : Addr
  mC_InvalidRun : mg "InvalidRun" = some (.ref C_InvalidRun)
  ex_InvalidRun : PySem.W.exmOne K (.ref C_InvalidRun) (.ref C_InvalidRun) = some true
  x_InvalidRun : PySem.W.excIn K C_InvalidRun He.veBase "ValueError.__new__" = true
  k_InvalidRun : PySem.W.keepIn K (.ref C_InvalidRun) = true
  s_InvalidRun : PySem.W.subIn K (.ref C_InvalidRun) (.type "BaseException") = some true
  y_InvalidRun : PySem.W.typeIn K (.ref C_InvalidRun) = some (.type "type")
  C_InvalidText : Addr
  mC_InvalidText : mg "InvalidText" = some (.ref C_InvalidText)
  ex_InvalidText : PySem.W.exmOne K (.ref C_InvalidText) (.ref C_InvalidText) = some true
  C_ConflateError : Addr
  mC_ConflateError : mg "ConflateError" = some (.ref C_ConflateError)
  B_ConflateError : BInit K C_ConflateError
  T_InvalidText : OexC K C_InvalidText
  fi_InvalidText : Addr
  fdi_InvalidText : FuncData
  iC_InvalidText : PySem.W.findIn K (.ref C_InvalidText) "__init__" = some (some (.ref fi_InvalidText))
  tI_InvalidText : PySem.W.typeIn K (.ref fi_InvalidText) = some (.type "function")
  Di_InvalidText : FunD K "__init__" "InvalidText.__init__" (defArgs (mth 4 0)) (defBody (mth 4 0)) (defScope (mth 4 0)) [] [] fi_InvalidText fdi_InvalidText
  no_InvalidText : PySem.W.findIn K (.ref C_InvalidText) "position" = some none
  xf_InvalidText : XfC K C_InvalidText
theorem scI_InvalidText : FnScope ["self", "position"] ["self", "position"] (defScope (mth 4 0)) := ⟨rfl, rfl, rfl, by decide +kernel, rfl, by decide +kernel, by decide +kernel⟩
theorem biI_InvalidText {K : PySem.W.Frag} {mg : Str → Option Value} (G : Gx K mg) : Binds K G.fdi_InvalidText ["self", "position"] [] := G.Di_InvalidText.bindsN fun _ _ _ _ _ _ us hl => match us, hl with | [_, _], _ => rfl
theorem okI_InvalidText {P : Program} {w : World} {K : PySem.W.Frag} {mg : Str → Option Value} {base : Heap} (G : Gx K mg) : FnOk P w K mg base CX0 1 G.fi_InvalidText G.fdi_InvalidText ["self", "position"] (spInitF G.C_InvalidText "position") :=
  ok_initF (C0 := G.C_ConflateError) (x0 := "ConflateError") G.Di_InvalidText scI_InvalidText G.T_InvalidText G.no_InvalidText fun cdv A outer s H E => pss_cons (ps_expr (pe_ceinit G.B_ConflateError rfl G.mC_ConflateError (by decide) (pa_cons (pv 0) (pa_cons pe_str pa_nil)))) (pss_one (ps_ost (pv 0) (pv 1)))
abbrev N_is_key : List Str := ["value", "character"]
theorem sc_is_key : FnScope ["value", "character"] ["value"] (defScope (top 11)) := ⟨rfl, rfl, rfl, by decide +kernel, rfl, by decide +kernel, by decide +kernel⟩
theorem bi_is_key {K : PySem.W.Frag} {mg : Str → Option Value} (G : Gx K mg) : Binds K G.fd_is_key ["value"] [] := G.D_is_key.bindsN fun _ _ _ _ _ _ us hl => match us, hl with | [_], _ => rfl
abbrev N_is_integer : List Str := ["value", "least", "greatest"]
theorem sc_is_integer : FnScope ["value", "least", "greatest"] ["value", "least", "greatest"] (defScope (top 12)) := ⟨rfl, rfl, rfl, by decide +kernel, rfl, by decide +kernel, by decide +kernel⟩
theorem bi_is_integer_2 {K : PySem.W.Frag} {mg : Str → Option Value} (G : Gx K mg) : ∃ ds, Vals ([(V.non)].drop 0) ds ∧ Binds K G.fd_is_integer ["value", "least", "greatest"] ds := G.D_is_integer.binds1 2 0 (by simp) rfl fun _ _ _ _ _ _ _ us its h1 h2 => match us, its, h1, h2 with | [_, _], [_], _, _ => ⟨_, rfl, rfl⟩
abbrev N_is_write : List Str := ["value"]
theorem sc_is_write : FnScope ["value"] ["value"] (defScope (top 13)) := ⟨rfl, rfl, rfl, by decide +kernel, rfl, by decide +kernel, by decide +kernel⟩
theorem bi_is_write {K : PySem.W.Frag} {mg : Str → Option Value} (G : Gx K mg) : Binds K G.fd_is_write ["value"] [] := G.D_is_write.bindsN fun _ _ _ _ _ _ us hl => match us, hl with | [_], _ => rfl
abbrev N_is_log : List Str := ["value", "key"]
theorem sc_is_log : FnScope ["value", "key"] ["value"] (defScope (top 14)) := ⟨rfl, rfl, rfl, by decide +kernel, rfl, by decide +kernel, by decide +kernel⟩
theorem bi_is_log {K : PySem.W.Frag} {mg : Str → Option Value} (G : Gx K mg) : Binds K G.fd_is_log ["value"] [] := G.D_is_log.bindsN fun _ _ _ _ _ _ us hl => match us, hl with | [_], _ => rfl
abbrev N_is_counted : List Str := ["value", "last", "key", "count", "item"]
theorem sc_is_counted : FnScope ["value", "last", "key", "count", "item"] ["value"] (defScope (top 15)) := ⟨rfl, rfl, rfl, by decide +kernel, rfl, by decide +kernel, by decide +kernel⟩
theorem bi_is_counted {K : PySem.W.Frag} {mg : Str → Option Value} (G : Gx K mg) : Binds K G.fd_is_counted ["value"] [] := G.D_is_counted.bindsN fun _ _ _ _ _ _ us hl => match us, hl with | [_], _ => rfl
abbrev N_is_event : List Str := ["value"]
theorem sc_is_event : FnScope ["value"] ["value"] (defScope (top 16)) := ⟨rfl, rfl, rfl, by decide +kernel, rfl, by decide +kernel, by decide +kernel⟩
theorem bi_is_event {K : PySem.W.Frag} {mg : Str → Option Value} (G : Gx K mg) : Binds K G.fd_is_event ["value"] [] := G.D_is_event.bindsN fun _ _ _ _ _ _ us hl => match us, hl with | [_], _ => rfl
abbrev N_are_events : List Str := ["value", "event"]
theorem sc_are_events : FnScope ["value", "event"] ["value"] (defScope (top 17)) := ⟨rfl, rfl, rfl, by decide +kernel, rfl, by decide +kernel, by decide +kernel⟩
theorem bi_are_events {K : PySem.W.Frag} {mg : Str → Option Value} (G : Gx K mg) : Binds K G.fd_are_events ["value"] [] := G.D_are_events.bindsN fun _ _ _ _ _ _ us hl => match us, hl with | [_], _ => rfl
abbrev N_is_run : List Str := ["value", "waiting", "event"]
theorem sc_is_run : FnScope ["value", "waiting", "event"] ["value"] (defScope (top 18)) := ⟨rfl, rfl, rfl, by decide +kernel, rfl, by decide +kernel, by decide +kernel⟩
theorem bi_is_run {K : PySem.W.Frag} {mg : Str → Option Value} (G : Gx K mg) : Binds K G.fd_is_run ["value"] [] := G.D_is_run.bindsN fun _ _ _ _ _ _ us hl => match us, hl with | [_], _ => rfl
abbrev N_require_log : List Str := ["log"]
theorem sc_require_log : FnScope ["log"] ["log"] (defScope (top 19)) := ⟨rfl, rfl, rfl, by decide +kernel, rfl, by decide +kernel, by decide +kernel⟩
theorem bi_require_log {K : PySem.W.Frag} {mg : Str → Option Value} (G : Gx K mg) : Binds K G.fd_require_log ["log"] [] := G.D_require_log.bindsN fun _ _ _ _ _ _ us hl => match us, hl with | [_], _ => rfl
abbrev N_require_counted : List Str := ["counted"]
theorem sc_require_counted : FnScope ["counted"] ["counted"] (defScope (top 20)) := ⟨rfl, rfl, rfl, by decide +kernel, rfl, by decide +kernel, by decide +kernel⟩
theorem bi_require_counted {K : PySem.W.Frag} {mg : Str → Option Value} (G : Gx K mg) : Binds K G.fd_require_counted ["counted"] [] := G.D_require_counted.bindsN fun _ _ _ _ _ _ us hl => match us, hl with | [_], _ => rfl
abbrev N_require_run : List Str := ["run"]
theorem sc_require_run : FnScope ["run"] ["run"] (defScope (top 21)) := ⟨rfl, rfl, rfl, by decide +kernel, rfl, by decide +kernel, by decide +kernel⟩
theorem bi_require_run {K : PySem.W.Frag} {mg : Str → Option Value} (G : Gx K mg) : Binds K G.fd_require_run ["run"] [] := G.D_require_run.bindsN fun _ _ _ _ _ _ us hl => match us, hl with | [_], _ => rfl
abbrev N_format_log : List Str := ["log"]
theorem sc_format_log : FnScope ["log"] ["log"] (defScope (top 27)) := ⟨rfl, rfl, rfl, by decide +kernel, rfl, by decide +kernel, by decide +kernel⟩
theorem bi_format_log {K : PySem.W.Frag} {mg : Str → Option Value} (G : Gx K mg) : Binds K G.fd_format_log ["log"] [] := G.D_format_log.bindsN fun _ _ _ _ _ _ us hl => match us, hl with | [_], _ => rfl
abbrev N_write_text : List Str := ["item"]
theorem sc_write_text : FnScope ["item"] ["item"] (defScope (top 28)) := ⟨rfl, rfl, rfl, by decide +kernel, rfl, by decide +kernel, by decide +kernel⟩
theorem bi_write_text {K : PySem.W.Frag} {mg : Str → Option Value} (G : Gx K mg) : Binds K G.fd_write_text ["item"] [] := G.D_write_text.bindsN fun _ _ _ _ _ _ us hl => match us, hl with | [_], _ => rfl
abbrev N_format_counted : List Str := ["counted", "item"]
theorem sc_format_counted : FnScope ["counted", "item"] ["counted"] (defScope (top 29)) := ⟨rfl, rfl, rfl, by decide +kernel, rfl, by decide +kernel, by decide +kernel⟩
theorem bi_format_counted {K : PySem.W.Frag} {mg : Str → Option Value} (G : Gx K mg) : Binds K G.fd_format_counted ["counted"] [] := G.D_format_counted.bindsN fun _ _ _ _ _ _ us hl => match us, hl with | [_], _ => rfl
abbrev N_format_run : List Str := ["run", "event"]
theorem sc_format_run : FnScope ["run", "event"] ["run"] (defScope (top 30)) := ⟨rfl, rfl, rfl, by decide +kernel, rfl, by decide +kernel, by decide +kernel⟩
theorem bi_format_run {K : PySem.W.Frag} {mg : Str → Option Value} (G : Gx K mg) : Binds K G.fd_format_run ["run"] [] := G.D_format_run.bindsN fun _ _ _ _ _ _ us hl => match us, hl with | [_], _ => rfl
abbrev N_words_of : List Str := ["text"]
theorem sc_words_of : FnScope ["text"] ["text"] (defScope (top 31)) := ⟨rfl, rfl, rfl, by decide +kernel, rfl, by decide +kernel, by decide +kernel⟩
theorem bi_words_of {K : PySem.W.Frag} {mg : Str → Option Value} (G : Gx K mg) : Binds K G.fd_words_of ["text"] [] := G.D_words_of.bindsN fun _ _ _ _ _ _ us hl => match us, hl with | [_], _ => rfl
abbrev N_count_in : List Str := ["word", "digit"]
theorem sc_count_in : FnScope ["word", "digit"] ["word"] (defScope (top 32)) := ⟨rfl, rfl, rfl, by decide +kernel, rfl, by decide +kernel, by decide +kernel⟩
theorem bi_count_in {K : PySem.W.Frag} {mg : Str → Option Value} (G : Gx K mg) : Binds K G.fd_count_in ["word"] [] := G.D_count_in.bindsN fun _ _ _ _ _ _ us hl => match us, hl with | [_], _ => rfl
abbrev N_parse_log : List Str := ["text", "words", "position", "word"]
theorem sc_parse_log : FnScope ["text", "words", "position", "word"] ["text"] (defScope (top 33)) := ⟨rfl, rfl, rfl, by decide +kernel, rfl, by decide +kernel, by decide +kernel⟩
theorem bi_parse_log {K : PySem.W.Frag} {mg : Str → Option Value} (G : Gx K mg) : Binds K G.fd_parse_log ["text"] [] := G.D_parse_log.bindsN fun _ _ _ _ _ _ us hl => match us, hl with | [_], _ => rfl
abbrev N_parse_counted : List Str := ["text", "found", "last", "position", "word", "key", "sign", "digits", "count"]
theorem sc_parse_counted : FnScope ["text", "found", "last", "position", "word", "key", "sign", "digits", "count"] ["text"] (defScope (top 34)) := ⟨rfl, rfl, rfl, by decide +kernel, rfl, by decide +kernel, by decide +kernel⟩
theorem bi_parse_counted {K : PySem.W.Frag} {mg : Str → Option Value} (G : Gx K mg) : Binds K G.fd_parse_counted ["text"] [] := G.D_parse_counted.bindsN fun _ _ _ _ _ _ us hl => match us, hl with | [_], _ => rfl
abbrev N_parse_run : List Str := ["text", "found", "waiting", "position", "word", "key"]
theorem sc_parse_run : FnScope ["text", "found", "waiting", "position", "word", "key"] ["text"] (defScope (top 35)) := ⟨rfl, rfl, rfl, by decide +kernel, rfl, by decide +kernel, by decide +kernel⟩
theorem bi_parse_run {K : PySem.W.Frag} {mg : Str → Option Value} (G : Gx K mg) : Binds K G.fd_parse_run ["text"] [] := G.D_parse_run.bindsN fun _ _ _ _ _ _ us hl => match us, hl with | [_], _ => rfl
abbrev N__law_source : List Str := ["script", "k", "cell"]
theorem sc__law_source : FnScope ["script", "k", "cell"] ["script", "k"] (defScope (top 37)) := ⟨rfl, rfl, rfl, by decide +kernel, rfl, by decide +kernel, by decide +kernel⟩
theorem bi__law_source {K : PySem.W.Frag} {mg : Str → Option Value} (G : Gx K mg) : Binds K G.fd__law_source ["script", "k"] [] := G.D__law_source.bindsN fun _ _ _ _ _ _ us hl => match us, hl with | [_, _], _ => rfl
abbrev N__law_draw : List Str := ["source", "limit", "found", "mixed"]
theorem sc__law_draw : FnScope ["source", "limit", "found", "mixed"] ["source", "limit"] (defScope (top 38)) := ⟨rfl, rfl, rfl, by decide +kernel, rfl, by decide +kernel, by decide +kernel⟩
theorem bi__law_draw {K : PySem.W.Frag} {mg : Str → Option Value} (G : Gx K mg) : Binds K G.fd__law_draw ["source", "limit"] [] := G.D__law_draw.bindsN fun _ _ _ _ _ _ us hl => match us, hl with | [_, _], _ => rfl
abbrev N__law_some : List Str := ["source", "things", "many", "left", "k"]
theorem sc__law_some : FnScope ["source", "things", "many", "left", "k"] ["source", "things", "many"] (defScope (top 39)) := ⟨rfl, rfl, rfl, by decide +kernel, rfl, by decide +kernel, by decide +kernel⟩
theorem bi__law_some {K : PySem.W.Frag} {mg : Str → Option Value} (G : Gx K mg) : Binds K G.fd__law_some ["source", "things", "many"] [] := G.D__law_some.bindsN fun _ _ _ _ _ _ us hl => match us, hl with | [_, _, _], _ => rfl
abbrev N__law_keys : List Str := ["source", "many", "words", "number"]
theorem sc__law_keys : FnScope ["source", "many", "words", "number"] ["source", "many"] (defScope (top 40)) := ⟨rfl, rfl, rfl, by decide +kernel, rfl, by decide +kernel, by decide +kernel⟩
theorem bi__law_keys {K : PySem.W.Frag} {mg : Str → Option Value} (G : Gx K mg) : Binds K G.fd__law_keys ["source", "many"] [] := G.D__law_keys.bindsN fun _ _ _ _ _ _ us hl => match us, hl with | [_, _], _ => rfl
abbrev N__law_log : List Str := ["source", "keys", "many", "way", "found", "item", "key"]
theorem sc__law_log : FnScope ["source", "keys", "many", "way", "found", "item", "key"] ["source", "keys", "many"] (defScope (top 41)) := ⟨rfl, rfl, rfl, by decide +kernel, rfl, by decide +kernel, by decide +kernel⟩
theorem bi__law_log {K : PySem.W.Frag} {mg : Str → Option Value} (G : Gx K mg) : Binds K G.fd__law_log ["source", "keys", "many"] [] := G.D__law_log.bindsN fun _ _ _ _ _ _ us hl => match us, hl with | [_, _, _], _ => rfl
abbrev N__law_run : List Str := ["source", "keys", "many", "found", "waiting", "often", "turn", "key"]
theorem sc__law_run : FnScope ["source", "keys", "many", "found", "waiting", "often", "turn", "key"] ["source", "keys", "many"] (defScope (top 42)) := ⟨rfl, rfl, rfl, by decide +kernel, rfl, by decide +kernel, by decide +kernel⟩
theorem bi__law_run {K : PySem.W.Frag} {mg : Str → Option Value} (G : Gx K mg) : Binds K G.fd__law_run ["source", "keys", "many"] [] := G.D__law_run.bindsN fun _ _ _ _ _ _ us hl => match us, hl with | [_, _, _], _ => rfl
abbrev N__law_counted : List Str := ["source", "log", "found", "last", "step", "key", "count"]
theorem sc__law_counted : FnScope ["source", "log", "found", "last", "step", "key", "count"] ["source", "log"] (defScope (top 43)) := ⟨rfl, rfl, rfl, by decide +kernel, rfl, by decide +kernel, by decide +kernel⟩
theorem bi__law_counted {K : PySem.W.Frag} {mg : Str → Option Value} (G : Gx K mg) : Binds K G.fd__law_counted ["source", "log"] [] := G.D__law_counted.bindsN fun _ _ _ _ _ _ us hl => match us, hl with | [_, _], _ => rfl
abbrev N__law_text : List Str := ["kind", "value", "key", "count", "event"]
theorem sc__law_text : FnScope ["kind", "value", "key", "count", "event"] ["kind", "value"] (defScope (top 44)) := ⟨rfl, rfl, rfl, by decide +kernel, rfl, by decide +kernel, by decide +kernel⟩
theorem bi__law_text {K : PySem.W.Frag} {mg : Str → Option Value} (G : Gx K mg) : Binds K G.fd__law_text ["kind", "value"] [] := G.D__law_text.bindsN fun _ _ _ _ _ _ us hl => match us, hl with | [_, _], _ => rfl
abbrev N__law_written : List Str := ["kind", "value"]
theorem sc__law_written : FnScope ["kind", "value"] ["kind", "value"] (defScope (top 45)) := ⟨rfl, rfl, rfl, by decide +kernel, rfl, by decide +kernel, by decide +kernel⟩
theorem bi__law_written {K : PySem.W.Frag} {mg : Str → Option Value} (G : Gx K mg) : Binds K G.fd__law_written ["kind", "value"] [] := G.D__law_written.bindsN fun _ _ _ _ _ _ us hl => match us, hl with | [_, _], _ => rfl
abbrev N__law_read : List Str := ["kind", "text"]
theorem sc__law_read : FnScope ["kind", "text"] ["kind", "text"] (defScope (top 46)) := ⟨rfl, rfl, rfl, by decide +kernel, rfl, by decide +kernel, by decide +kernel⟩
theorem bi__law_read {K : PySem.W.Frag} {mg : Str → Option Value} (G : Gx K mg) : Binds K G.fd__law_read ["kind", "text"] [] := G.D__law_read.bindsN fun _ _ _ _ _ _ us hl => match us, hl with | [_, _], _ => rfl
abbrev N__law_right : List Str := ["kind", "value", "kept", "text", "turn", "found"]
theorem sc__law_right : FnScope ["kind", "value", "kept", "text", "turn", "found"] ["kind", "value"] (defScope (top 47)) := ⟨rfl, rfl, rfl, by decide +kernel, rfl, by decide +kernel, by decide +kernel⟩
theorem bi__law_right {K : PySem.W.Frag} {mg : Str → Option Value} (G : Gx K mg) : Binds K G.fd__law_right ["kind", "value"] [] := G.D__law_right.bindsN fun _ _ _ _ _ _ us hl => match us, hl with | [_, _], _ => rfl
abbrev N_law : List Str := ["script", "k", "source", "keys", "turn", "most", "many", "some", "log", "values", "kind", "value"]
theorem sc_law : FnScope ["script", "k", "source", "keys", "turn", "most", "many", "some", "log", "values", "kind", "value"] ["script"] (defScope (top 48)) := ⟨rfl, rfl, rfl, by decide +kernel, rfl, by decide +kernel, by decide +kernel⟩
theorem bi_law {K : PySem.W.Frag} {mg : Str → Option Value} (G : Gx K mg) : Binds K G.fd_law ["script"] [] := G.D_law.bindsN fun _ _ _ _ _ _ us hl => match us, hl with | [_], _ => rfl
-- SPECS
/-! what the defs do, in plain Lean -/
def lets : Str := "abcdefghijklmnopqrstuvwxyz"
def chrs : Str := "abcdefghijklmnopqrstuvwxyz0123456789_"
def isKey (x : Str) : Bool := (decide (1 ≤ x.length ∧ x.length ≤ 12)) && (x.cps.toList.take 1).all (fun c => decide (c ∈ lets.cps.toList)) && x.cps.toList.all fun c => decide (c ∈ chrs.cps.toList)
def isKeyD : D → Bool
  | .sc (.str x) => isKey x
  | _ => false
def sp_is_key {K : PySem.W.Frag} {mg : Str → Option Value} (G : Gx K mg) : VSp := fun os φ _ => ∃ d, os = [.sh d] ∧ (tyName d).isSome = true ∧ (∀ x, d = .sc (.str x) → x.length ≤ sizeLine) ∧ φ (.sh (.sc (.bl (isKeyD d)))) []
/-- the words of a text -/
def wordsOf (x : Str) : List Str := if x = Str.ofString "" then [] else Txt.split x (Str.ofString " ")
def bad {K : PySem.W.Frag} {mg : Str → Option Value} (G : Gx K mg) (d : D) : Exc := ⟨G.C_InvalidText, some ("position", d)⟩
def sp_words_of {K : PySem.W.Frag} {mg : Str → Option Value} (G : Gx K mg) : VSp := fun os φ ε => (∃ x : Str, os = [.sh (.sc (.str x))] ∧ x.length + 2 ≤ sizeLine ∧ φ (.ow .lst ((wordsOf x).map strD)) []) ∨
  (∃ d, os = [.sh d] ∧ (tyName d).isSome = true ∧ (∀ x, d ≠ .sc (.str x)) ∧ ε (bad G (.sc .non)) [])
def digs : Str := "0123456789"
/-- a word of digits without a leading zero -/
def isCount (x : Str) : Bool := match x.cps.toList with
  | [] => false
  | c :: l => decide (c ≠ 48) && (c :: l).all fun c => decide (c ∈ digs.cps.toList)
def countIn (x : Str) : Option Int := if isCount x = true then PySem.intText? x else none
def optI : Option Int → D
  | some i => .sc (.int i)
  | none => .sc .non
def sp_count_in {K : PySem.W.Frag} {mg : Str → Option Value} (G : Gx K mg) : VSp := fun os φ _ => ∃ x, os = [.sh (strD x)] ∧ x.length ≤ sizeLine ∧ (isCount x = true → x.length ≤ 640) ∧ φ (.sh (optI (countIn x))) []
/-- the place of the first word that is no key -/
def firstBad : Nat → List Str → Option Nat
  | _, [] => none
  | i, w :: ws => if isKey w = true then firstBad (i + 1) ws else some i
/-- a word of a counted log -/
def cword (w : Str) : Option (Str × Int) := match Txt.split w (Str.ofString "#") with
  | [a, b] => if isKey a = true then match countIn b with
    | some c => some (a, c)
    | none => none
    else none
  | _ => none
def cntRun : Nat → List (Str × Int) → List (Str × Int) → List Str → Except Nat (List (Str × Int))
  | _, _, f, [] => .ok f
  | i, m, f, w :: ws => match cword w with
    | some (k, c) => if c ≤ (lk m k).getD 0 then .error i else cntRun (i + 1) (pt m k c) (f ++ [(k, c)]) ws
    | none => .error i
def cntD (p : Str × Int) : D := .nd .tup [strD p.1, .sc (.int p.2)]
/-- events: a send, or a write -/
def evD : Option Str → D
  | none => .nd .tup [strD "send"]
  | some k => .nd .tup [strD "write", strD k]
def enq (q : List Str) (k : Str) : List Str := if k ∈ q then q else q ++ [k]
def rword (w : Str) : Option Str := match w.cps.toList with
  | 43 :: l => if isKey ⟨l.toArray⟩ = true then some ⟨l.toArray⟩ else none
  | _ => none
def runRun : Nat → List Str → List (Option Str) → List Str → Except Nat (List (Option Str))
  | _, _, f, [] => .ok f
  | i, q, f, w :: ws => match rword w with
    | some k => runRun (i + 1) (enq q k) (f ++ [some k]) ws
    | none => if w = "!" ∧ q ≠ [] then runRun (i + 1) q.tail (f ++ [none]) ws else .error i
/-- what a text is read as -/
def readAs (kind : Nat) (x : Str) : Except Nat (List D) := match kind with
  | 0 => match firstBad 0 (wordsOf x) with
    | none => .ok ((wordsOf x).map strD)
    | some j => .error j
  | 1 => match cntRun 0 [] [] (wordsOf x) with
    | .ok f => .ok (f.map cntD)
    | .error j => .error j
  | _ => match runRun 0 [] [] (wordsOf x) with
    | .ok f => .ok (f.map evD)
    | .error j => .error j
/-- digits stand together at most so many -/
def Dr (n : Nat) (x : Str) : Prop := (∀ c ∈ x.cps.toList, c < 0x110000) ∧ ∀ a b c : List Nat, x.cps.toList = a ++ b ++ c → (∀ d ∈ b, 48 ≤ d ∧ d ≤ 57) → b.length ≤ n
def sp_parse {K : PySem.W.Frag} {mg : Str → Option Value} (G : Gx K mg) (kind : Nat) : VSp := fun os φ ε => (∃ x : Str, os = [.sh (strD x)] ∧ x.length + 2 ≤ sizeLine ∧ Dr 640 x ∧ match readAs kind x with
    | .ok l => φ (.ow .lst l) []
    | .error j => ε (bad G (.sc (.int (j : Nat)))) []) ∨
  (∃ d, os = [.sh d] ∧ (tyName d).isSome = true ∧ (∀ x, d ≠ .sc (.str x)) ∧ ε (bad G (.sc .non)) [])
def sp_parse_log {K : PySem.W.Frag} {mg : Str → Option Value} (G : Gx K mg) : VSp := sp_parse G 0
def sp_parse_counted {K : PySem.W.Frag} {mg : Str → Option Value} (G : Gx K mg) : VSp := sp_parse G 1
def sp_parse_run {K : PySem.W.Frag} {mg : Str → Option Value} (G : Gx K mg) : VSp := sp_parse G 2
/-- a source of draws, behind at most n of them -/
def srcD (a b c : Int) : List D := [.sc (.int a), .sc (.int b), .sc (.int c)]
def Src (n : Nat) (o : O) : Prop := ∃ a b c : Int, o = .ow .lst (srcD a b c) ∧ 0 ≤ b ∧ b < 2 ^ 140 ∧ 0 ≤ c ∧ c ≤ n
def scriptDs (ns : List Int) : List D := ns.map fun n => .sc (.int n)
def sp__law_source {K : PySem.W.Frag} {mg : Str → Option Value} (G : Gx K mg) : VSp := fun os φ _ => ∃ (ns : List Int) (k : Int), os = [.sh (.nd .fzl (scriptDs ns)), .sh (.sc (.int k))] ∧ 0 ≤ k ∧ k < 1000 ∧ ∀ o, Src 0 o → φ o []
def sp__law_draw {K : PySem.W.Frag} {mg : Str → Option Value} (G : Gx K mg) : VSp := fun os φ _ => ∃ (n : Nat) (o : O) (l : Int), os = [o, .sh (.sc (.int l))] ∧ Src n o ∧ n < 2 ^ 100 ∧ 0 < l ∧ l < 2 ^ 200 ∧ ∀ r o', 0 ≤ r → r < l → Src (n + 1) o' → φ (.sh (.sc (.int r))) [o']
def sp__law_some {K : PySem.W.Frag} {mg : Str → Option Value} (G : Gx K mg) : VSp := fun os φ _ => ∃ (n : Nat) (o : O) (xs : List D) (l : Int), os = [o, .sh (.nd .lst xs), .sh (.sc (.int l))] ∧ Src n o ∧ n < 2 ^ 90 ∧ 0 ≤ l ∧ l ≤ xs.length ∧ xs.length ≤ 2 ^ 20 ∧
  ∀ ys o', ys.length = l.toNat → (∀ y ∈ ys, y ∈ xs) → Src (n + l.toNat) o' → φ (.ow .lst ys) [o']
def sp__law_keys {K : PySem.W.Frag} {mg : Str → Option Value} (G : Gx K mg) : VSp := fun os φ _ => ∃ (n : Nat) (o : O) (l : Int), os = [o, .sh (.sc (.int l))] ∧ Src n o ∧ n < 2 ^ 90 ∧ 0 ≤ l ∧ l ≤ 215 ∧
  ∀ (ks : List Str) o', ks.length = l.toNat → (∀ k ∈ ks, isKey k = true) → Src (n + l.toNat) o' → φ (.ow .lst (ks.map strD)) [o']
def sp__law_log {K : PySem.W.Frag} {mg : Str → Option Value} (G : Gx K mg) : VSp := fun os φ _ => ∃ (n : Nat) (o : O) (ks : List Str) (l : Int), os = [o, .sh (.nd .lst (ks.map strD)), .sh (.sc (.int l))] ∧ Src n o ∧ n < 2 ^ 80 ∧ ks ≠ [] ∧ ks.length ≤ 2 ^ 20 ∧ (∀ k ∈ ks, isKey k = true) ∧ 0 ≤ l ∧ l ≤ 2 ^ 20 ∧
  ∀ (ls : List Str) o', ls.length = l.toNat → (∀ k ∈ ls, k ∈ ks) → Src (n + 1 + 4 * l.toNat) o' → φ (.ow .lst (ls.map strD)) [o']
/-- sends only while a key waits -/
def runOk : List Str → List (Option Str) → Prop
  | _, [] => True
  | q, some k :: es => runOk (enq q k) es
  | q, none :: es => q ≠ [] ∧ runOk q.tail es
def sp__law_run {K : PySem.W.Frag} {mg : Str → Option Value} (G : Gx K mg) : VSp := fun os φ _ => ∃ (n : Nat) (o : O) (ks : List Str) (l : Int), os = [o, .sh (.nd .lst (ks.map strD)), .sh (.sc (.int l))] ∧ Src n o ∧ n < 2 ^ 80 ∧ ks ≠ [] ∧ ks.length ≤ 2 ^ 20 ∧ (∀ k ∈ ks, isKey k = true) ∧ 0 ≤ l ∧ l ≤ 2 ^ 20 ∧
  ∀ (es : List (Option Str)) o', es.length = l.toNat → (∀ k, some k ∈ es → k ∈ ks) → runOk [] es → Src (n + 1 + 2 * l.toNat) o' → φ (.ow .lst (es.map evD)) [o']
/-! what is judged -/
def Short (x : Str) : Prop := x.length ≤ 12 ∧ PyData.strOk x = true
def Chd (c : D) : Prop := (tyName c).isSome = true ∧ (∀ x, c = .sc (.str x) → Short x) ∧ ∀ i : Int, c = .sc (.int i) → i < 10 ^ 30
def Shn (n : Nat) (d : D) : Prop := ∃ p, toPyD d = some p ∧ p.showable = true ∧ p.depth ≤ 10 ∧ p.shown.length ≤ n
/-- an item of a list that is judged -/
def Itm (d : D) : Prop := Chd d ∧ Shn 300 d ∧ ∀ ds, d = .nd .tup ds → (∀ c ∈ ds, Chd c) ∧ ds.length ≤ 3 ∧ ∀ x cs, ds = .sc (.str x) :: cs → ∃ p, Dat 5 d p
/-- a value that is judged -/
def Vald (d : D) : Prop := (∃ ds, d = .nd .lst ds ∧ ds.length ≤ 2000 ∧ ∀ c ∈ ds, Itm c) ∨ ((tyName d).isSome = true ∧ tyName d ≠ some "list" ∧ ∃ p, toPyD d = some p ∧ p.showable = true ∧ p.depth ≤ 20 ∧ p.shown.length ≤ 4000000)
def asCnt : D → Option (Str × Int)
  | .nd .tup [.sc (.str x), .sc (.int n)] => if isKey x = true then some (x, n) else none
  | _ => none
def cntOk : List (Str × Int) → List D → Bool
  | _, [] => true
  | m, d :: ds => match asCnt d with
    | some (k, n) => decide ((lk m k).getD 0 < n) && cntOk (pt m k n) ds
    | none => false
def asEv : D → Option (Option Str)
  | .nd .tup [.sc (.str x)] => if x = Str.ofString "send" then some none else none
  | .nd .tup [.sc (.str x), .sc (.str k)] => if x = Str.ofString "write" ∧ isKey k = true then some (some k) else none
  | _ => none
def evs : List D → Option (List (Option Str))
  | [] => some []
  | d :: ds => match asEv d, evs ds with
    | some e, some es => some (e :: es)
    | _, _ => none
def runOkB : List Str → List (Option Str) → Bool
  | _, [] => true
  | q, some k :: es => runOkB (enq q k) es
  | q, none :: es => decide (q ≠ []) && runOkB q.tail es
def isWrD (d : D) : Bool := match asCnt d with
  | some p => decide (1 ≤ p.2)
  | none => false
def good (kind : Nat) (d : D) : Bool := match d with
  | .nd .lst ds => (match kind with
    | 0 => ds.all isKeyD
    | 1 => cntOk [] ds
    | _ => match evs ds with
      | some es => runOkB [] es
      | none => false)
  | _ => false
def wordD : D → Str
  | .sc (.str x) => x
  | .nd .tup [.sc (.str k), .sc (.int n)] => k ++ Str.ofString "#" ++ numS n
  | .nd .tup [.sc (.str _)] => "!"
  | .nd .tup [.sc (.str _), .sc (.str k)] => Str.ofString "+" ++ k
  | _ => ""
def textOf (d : D) : Str := match d with
  | .nd .lst ds => Txt.join (Str.ofString " ") (ds.map wordD)
  | _ => ""
def errC {K : PySem.W.Frag} {mg : Str → Option Value} (G : Gx K mg) (kind : Nat) : Exc := ⟨if kind < 2 then G.C_InvalidLog else G.C_InvalidRun, none⟩
def isIntGe (l : Int) : D → Bool
  | .sc (.int i) => decide (l ≤ i)
  | _ => false
def sp_is_integer {K : PySem.W.Frag} {mg : Str → Option Value} (G : Gx K mg) : VSp := fun os φ _ => ∃ d l, os = [.sh d, .sh (.sc (.int l)), .sh (.sc .non)] ∧ (tyName d).isSome = true ∧ φ (.sh (.sc (.bl (isIntGe l d)))) []
def sp_is_write {K : PySem.W.Frag} {mg : Str → Option Value} (G : Gx K mg) : VSp := fun os φ _ => ∃ d, os = [.sh d] ∧ Itm d ∧ φ (.sh (.sc (.bl (isWrD d)))) []
def sp_is_log {K : PySem.W.Frag} {mg : Str → Option Value} (G : Gx K mg) : VSp := fun os φ _ => ∃ d, os = [.sh d] ∧ Vald d ∧ φ (.sh (.sc (.bl (good 0 d)))) []
def sp_is_counted {K : PySem.W.Frag} {mg : Str → Option Value} (G : Gx K mg) : VSp := fun os φ _ => ∃ d, os = [.sh d] ∧ Vald d ∧ φ (.sh (.sc (.bl (good 1 d)))) []
def sp_is_event {K : PySem.W.Frag} {mg : Str → Option Value} (G : Gx K mg) : VSp := fun os φ _ => ∃ d, os = [.sh d] ∧ Itm d ∧ φ (.sh (.sc (.bl (asEv d).isSome))) []
def areEv (d : D) : Bool := match d with
  | .nd .lst ds => ds.all fun e => (asEv e).isSome
  | _ => false
def sp_are_events {K : PySem.W.Frag} {mg : Str → Option Value} (G : Gx K mg) : VSp := fun os φ _ => ∃ d, os = [.sh d] ∧ Vald d ∧ φ (.sh (.sc (.bl (areEv d)))) []
def sp_is_run {K : PySem.W.Frag} {mg : Str → Option Value} (G : Gx K mg) : VSp := fun os φ _ => ∃ d, os = [.sh d] ∧ Vald d ∧ φ (.sh (.sc (.bl (good 2 d)))) []
def sp_require {K : PySem.W.Frag} {mg : Str → Option Value} (G : Gx K mg) (kind : Nat) : VSp := fun os φ ε => ∃ d, os = [.sh d] ∧ Vald d ∧ if good kind d = true then φ (.sh (.sc .non)) [] else ε (errC G kind) []
def sp_require_log {K : PySem.W.Frag} {mg : Str → Option Value} (G : Gx K mg) : VSp := sp_require G 0
def sp_require_counted {K : PySem.W.Frag} {mg : Str → Option Value} (G : Gx K mg) : VSp := sp_require G 1
def sp_require_run {K : PySem.W.Frag} {mg : Str → Option Value} (G : Gx K mg) : VSp := sp_require G 2
def sp_write_text {K : PySem.W.Frag} {mg : Str → Option Value} (G : Gx K mg) : VSp := fun os φ _ => ∃ k n, os = [.sh (.nd .tup [.sc (.str k), .sc (.int n)])] ∧ k.length ≤ 12 ∧ 0 ≤ n ∧ n < 10 ^ 30 ∧ φ (.sh (strD (wordD (.nd .tup [.sc (.str k), .sc (.int n)])))) []
def sp_format {K : PySem.W.Frag} {mg : Str → Option Value} (G : Gx K mg) (kind : Nat) : VSp := fun os φ ε => ∃ d, os = [.sh d] ∧ Vald d ∧ if good kind d = true then φ (.sh (strD (textOf d))) [] else ε (errC G kind) []
def sp_format_log {K : PySem.W.Frag} {mg : Str → Option Value} (G : Gx K mg) : VSp := sp_format G 0
def sp_format_counted {K : PySem.W.Frag} {mg : Str → Option Value} (G : Gx K mg) : VSp := sp_format G 1
def sp_format_run {K : PySem.W.Frag} {mg : Str → Option Value} (G : Gx K mg) : VSp := sp_format G 2

/-- a value of the kind -/
def Gd (kind : Nat) (d : D) : Prop := Vald d ∧ good kind d = true
def sp__law_counted {K : PySem.W.Frag} {mg : Str → Option Value} (G : Gx K mg) : VSp := fun os φ _ => ∃ (n : Nat) (o : O) (ks : List Str), os = [o, .sh (.nd .lst (ks.map strD))] ∧ Src n o ∧ n < 2 ^ 80 ∧ ks.length ≤ 200 ∧ (∀ k ∈ ks, isKey k = true) ∧
  ∀ (ps : List (Str × Int)) o', good 1 (.nd .lst (ps.map cntD)) = true → ps.length = ks.length → (∀ p ∈ ps, 1 ≤ p.2 ∧ p.2 < 10 ^ 30) → Src (n + 1 + ks.length) o' → φ (.ow .lst (ps.map cntD)) [o']
def sp__law_text {K : PySem.W.Frag} {mg : Str → Option Value} (G : Gx K mg) : VSp := fun os φ _ => ∃ (kind : Nat) (d : D), os = [.sh (.sc (.int kind)), .sh d] ∧ kind < 3 ∧ Gd kind d ∧ φ (.sh (strD (textOf d))) []
def sp__law_written {K : PySem.W.Frag} {mg : Str → Option Value} (G : Gx K mg) : VSp := fun os φ _ => ∃ (kind : Nat) (d : D), os = [.sh (.sc (.int kind)), .sh d] ∧ kind < 3 ∧ Gd kind d ∧ φ (.sh (strD (textOf d))) []
def sp__law_read {K : PySem.W.Frag} {mg : Str → Option Value} (G : Gx K mg) : VSp := fun os φ _ => ∃ (kind : Nat) (ds : List D), os = [.sh (.sc (.int kind)), .sh (strD (textOf (.nd .lst ds)))] ∧ kind < 3 ∧ Gd kind (.nd .lst ds) ∧ φ (.ow .lst ds) []
def sp__law_right {K : PySem.W.Frag} {mg : Str → Option Value} (G : Gx K mg) : VSp := fun os φ _ => ∃ (kind : Nat) (d : D), os = [.sh (.sc (.int kind)), .sh d] ∧ kind < 3 ∧ Gd kind d ∧ φ (.sh (.sc (.bl true))) []
def sp_law {K : PySem.W.Frag} {mg : Str → Option Value} (G : Gx K mg) : VSp := spLawV 63

def s_is_key_0 {K : PySem.W.Frag} {mg : Str → Option Value} (G : Gx K mg) : VS :=
 (vIfS (vOr (vNot (vTst (vArg (gn2 gIsi) (vCons true (vName 0) (vCons true (vC (.ty "str")) vNil))))) (vOr (vNot (vChainI (fun i j => decide (i ≤ j)) (fun i j => decide (i ≤ j)) (vC (.int 1)) (vArg (gn1 gLen) (vCons true (vName 0) vNil)) (vC (.int 12)))) (vTst (vBin true (gn2 (gInW true)) (vBin true (gn2 gIx) (vName 0) (vC (.int 0))) (vC (.str "abcdefghijklmnopqrstuvwxyz")))))) (vRet (vC (.bl false))) vNx)
def r_is_key {K : PySem.W.Frag} {mg : Str → Option Value} (G : Gx K mg) : VS :=
 (vSeq (s_is_key_0 G)
 (vRet (vArg (gn1 (gBls fun bs => bs.all id)) (vCons true (vLc (vStrI (vName 0)) (vgName 1) vYes (vBin true (gn2 (gInW false)) (vName 1) (vC (.str "abcdefghijklmnopqrstuvwxyz0123456789_"))) [1]) vNil))))
def s_is_integer_0 {K : PySem.W.Frag} {mg : Str → Option Value} (G : Gx K mg) : VS :=
 (vIfS (vOr (vNot (vTst (vArg (gn2 gIsi) (vCons true (vName 0) (vCons true (vC (.ty "int")) vNil))))) (vOr (vTst (vArg (gn2 gIsi) (vCons true (vName 0) (vCons true (vC (.ty "bool")) vNil)))) (vTst (vBin true (gn2 gLt) (vName 0) (vName 1))))) (vRet (vC (.bl false))) vNx)
def r_is_integer {K : PySem.W.Frag} {mg : Str → Option Value} (G : Gx K mg) : VS :=
 (vSeq (s_is_integer_0 G)
 (vRet (vOrV (vBin true (gn2 (gIsN false)) (vName 2) (vC .non)) (vBin true (gn2 gLe) (vName 0) (vName 2)))))
def r_is_write {K : PySem.W.Frag} {mg : Str → Option Value} (G : Gx K mg) : VS :=
 (vRet (vAndV (vArg (gn2 gIsi) (vCons true (vName 0) (vCons true (vC (.ty "tuple")) vNil))) (vAndV (vBin true (gn2 (gEq false)) (vArg (gn1 gLen) (vCons true (vName 0) vNil)) (vC (.int 2))) (vAndV (vCall (none :: []) [] (sp_is_key G) (vCons true (vBin true (gn2 gIx) (vName 0) (vC (.int 0))) vNil)) (vCall (none :: none :: []) [.sc (.non)] (sp_is_integer G) (vCons true (vBin true (gn2 gIx) (vName 0) (vC (.int 1))) (vCons true (vC (.int 1)) vNil)))))))
def r_is_log {K : PySem.W.Frag} {mg : Str → Option Value} (G : Gx K mg) : VS :=
 (vRet (vAndV (vArg (gn2 gIsi) (vCons true (vName 0) (vCons true (vC (.ty "list")) vNil))) (vArg (gn1 (gBls fun bs => bs.all id)) (vCons true (vLc (vSeqI .lst (vName 0)) (vgName 1) vYes (vCall (none :: []) [] (sp_is_key G) (vCons true (vName 1) vNil)) [1]) vNil))))
def s_is_counted_0 {K : PySem.W.Frag} {mg : Str → Option Value} (G : Gx K mg) : VS :=
 (vIfS (vOr (vNot (vTst (vArg (gn2 gIsi) (vCons true (vName 0) (vCons true (vC (.ty "list")) vNil))))) (vNot (vTst (vArg (gn1 (gBls fun bs => bs.all id)) (vCons true (vLc (vSeqI .lst (vName 0)) (vgName 4) vYes (vCall (none :: []) [] (sp_is_write G) (vCons true (vName 4) vNil)) [4]) vNil))))) (vRet (vC (.bl false))) vNx)
def s_is_counted_1 {K : PySem.W.Frag} {mg : Str → Option Value} (G : Gx K mg) : VS :=
 (vIfS (vTst (vBin true (gn2 gLe) (vName 3) (vDget2 (vName 1) (vName 2) (vC (.int 0))))) (vRet (vC (.bl false))) vNx)
def s_is_counted_2 {K : PySem.W.Frag} {mg : Str → Option Value} (G : Gx K mg) : VS :=
 (vSeq (s_is_counted_1 G)
 (vAsg (vName 3) (vgSub 1 true (vName 2))))
def r_is_counted {K : PySem.W.Frag} {mg : Str → Option Value} (G : Gx K mg) : VS :=
 (vSeq (s_is_counted_0 G)
 (vSeq (vSet 1 vDnew)
 (vSeq (vFor (vSeqI .lst (vName 0)) (vgTup 2 (vgCons (vgName 2) (vgCons (vgName 3) vgNil))) (s_is_counted_2 G))
 (vRet (vC (.bl true))))))
def s_is_event_0 {K : PySem.W.Frag} {mg : Str → Option Value} (G : Gx K mg) : VS :=
 (vIfS (vOr (vNot (vTst (vArg (gn2 gIsi) (vCons true (vName 0) (vCons true (vC (.ty "tuple")) vNil))))) (vOr (vTst (vBin true (gn2 gEqE) (vName 0) (vTup vNil))) (vNot (vTst (vArg (gn2 gIsi) (vCons true (vBin true (gn2 gIx) (vName 0) (vC (.int 0))) (vCons true (vC (.ty "str")) vNil))))))) (vRet (vC (.bl false))) vNx)
def s_is_event_1 {K : PySem.W.Frag} {mg : Str → Option Value} (G : Gx K mg) : VS :=
 (vIfS (vTst (vBin true (gn2 (gEq false)) (vArg (gn1 gLen) (vCons true (vName 0) vNil)) (vC (.int 2)))) (vRet (vAndV (vBin true (gn2 (gEq false)) (vBin true (gn2 gIx) (vName 0) (vC (.int 0))) (vC (.str "write"))) (vCall (none :: []) [] (sp_is_key G) (vCons true (vBin true (gn2 gIx) (vName 0) (vC (.int 1))) vNil)))) vNx)
def r_is_event {K : PySem.W.Frag} {mg : Str → Option Value} (G : Gx K mg) : VS :=
 (vSeq (s_is_event_0 G)
 (vSeq (s_is_event_1 G)
 (vRet (vBin true (gn2 (gEq false)) (vName 0) (vTup (vCons true (vC (.str "send")) vNil))))))
def r_are_events {K : PySem.W.Frag} {mg : Str → Option Value} (G : Gx K mg) : VS :=
 (vRet (vAndV (vArg (gn2 gIsi) (vCons true (vName 0) (vCons true (vC (.ty "list")) vNil))) (vArg (gn1 (gBls fun bs => bs.all id)) (vCons true (vLc (vSeqI .lst (vName 0)) (vgName 1) vYes (vCall (none :: []) [] (sp_is_event G) (vCons true (vName 1) vNil)) [1]) vNil))))
def s_is_run_0 {K : PySem.W.Frag} {mg : Str → Option Value} (G : Gx K mg) : VS :=
 (vIfS (vNot (vTst (vCall (none :: []) [] (sp_are_events G) (vCons true (vName 0) vNil)))) (vRet (vC (.bl false))) vNx)
def s_is_run_1 {K : PySem.W.Frag} {mg : Str → Option Value} (G : Gx K mg) : VS :=
 (vIfS (vTst (vBin true (gn2 gEqE) (vName 1) (vLst vNil))) (vRet (vC (.bl false))) vNx)
def s_is_run_2 {K : PySem.W.Frag} {mg : Str → Option Value} (G : Gx K mg) : VS :=
 (vIfS (vTst (vBin true (gn2 (gInW true)) (vBin true (gn2 gIx) (vName 2) (vC (.int 1))) (vName 1))) (vDrop (vMut 1 "list" mAppend (vCons true (vBin true (gn2 gIx) (vName 2) (vC (.int 1))) vNil))) vNx)
def s_is_run_3 {K : PySem.W.Frag} {mg : Str → Option Value} (G : Gx K mg) : VS :=
 (vSeq (s_is_run_1 G)
 (vDrop (vMut 1 "list" mPopAt (vCons true (vC (.int 0)) vNil))))
def s_is_run_4 {K : PySem.W.Frag} {mg : Str → Option Value} (G : Gx K mg) : VS :=
 (vIfS (vTst (vBin true (gn2 (gEq false)) (vName 2) (vTup (vCons true (vC (.str "send")) vNil)))) (s_is_run_3 G) (s_is_run_2 G))
def r_is_run {K : PySem.W.Frag} {mg : Str → Option Value} (G : Gx K mg) : VS :=
 (vSeq (s_is_run_0 G)
 (vSeq (vSet 1 (vLst vNil))
 (vSeq (vFor (vSeqI .lst (vName 0)) (vgName 2) (s_is_run_4 G))
 (vRet (vC (.bl true))))))
def s_require_log_0 {K : PySem.W.Frag} {mg : Str → Option Value} (G : Gx K mg) : VS :=
 (vIfS (vNot (vTst (vCall (none :: []) [] (sp_is_log G) (vCons true (vName 0) vNil)))) (vRaise G.C_InvalidLog (vCons true (vC (.str "not a log")) vNil)) vNx)
def r_require_log {K : PySem.W.Frag} {mg : Str → Option Value} (G : Gx K mg) : VS :=
 (s_require_log_0 G)
def s_require_counted_0 {K : PySem.W.Frag} {mg : Str → Option Value} (G : Gx K mg) : VS :=
 (vIfS (vNot (vTst (vCall (none :: []) [] (sp_is_counted G) (vCons true (vName 0) vNil)))) (vRaise G.C_InvalidLog (vCons true (vC (.str "not a counted log")) vNil)) vNx)
def r_require_counted {K : PySem.W.Frag} {mg : Str → Option Value} (G : Gx K mg) : VS :=
 (s_require_counted_0 G)
def s_require_run_0 {K : PySem.W.Frag} {mg : Str → Option Value} (G : Gx K mg) : VS :=
 (vIfS (vNot (vTst (vCall (none :: []) [] (sp_is_run G) (vCons true (vName 0) vNil)))) (vRaise G.C_InvalidRun (vCons true (vC (.str "not a run")) vNil)) vNx)
def r_require_run {K : PySem.W.Frag} {mg : Str → Option Value} (G : Gx K mg) : VS :=
 (s_require_run_0 G)
def r_format_log {K : PySem.W.Frag} {mg : Str → Option Value} (G : Gx K mg) : VS :=
 (vSeq (vDrop (vCall (none :: []) [] (sp_require_log G) (vCons true (vName 0) vNil)))
 (vRet (vBM "str" true (gn2 gJoin) (vC (.str " ")) (vCons true (vName 0) vNil))))
def r_write_text {K : PySem.W.Frag} {mg : Str → Option Value} (G : Gx K mg) : VS :=
 (vRet (vBin true (gn2 gAdd) (vBin true (gn2 gAdd) (vBin true (gn2 gIx) (vName 0) (vC (.int 0))) (vC (.str "#"))) (vArg (gn1 gStrD) (vCons true (vBin true (gn2 gIx) (vName 0) (vC (.int 1))) vNil))))
def r_format_counted {K : PySem.W.Frag} {mg : Str → Option Value} (G : Gx K mg) : VS :=
 (vSeq (vDrop (vCall (none :: []) [] (sp_require_counted G) (vCons true (vName 0) vNil)))
 (vRet (vBM "str" false (gn2 gJoin) (vC (.str " ")) (vCons true (vLc (vSeqI .lst (vName 0)) (vgName 1) vYes (vCall (none :: []) [] (sp_write_text G) (vCons true (vName 1) vNil)) [1]) vNil))))
def r_format_run {K : PySem.W.Frag} {mg : Str → Option Value} (G : Gx K mg) : VS :=
 (vSeq (vDrop (vCall (none :: []) [] (sp_require_run G) (vCons true (vName 0) vNil)))
 (vRet (vBM "str" false (gn2 gJoin) (vC (.str " ")) (vCons true (vLc (vSeqI .lst (vName 0)) (vgName 1) vYes (vIf (vTst (vBin true (gn2 (gEq false)) (vBin true (gn2 gIx) (vName 1) (vC (.int 0))) (vC (.str "send")))) (vC (.str "!")) (vBin true (gn2 gAdd) (vC (.str "+")) (vBin true (gn2 gIx) (vName 1) (vC (.int 1))))) [1]) vNil))))
def s_words_of_0 {K : PySem.W.Frag} {mg : Str → Option Value} (G : Gx K mg) : VS :=
 (vIfS (vNot (vTst (vArg (gn2 gIsi) (vCons true (vName 0) (vCons true (vC (.ty "str")) vNil))))) (vRaiseF G.C_InvalidText "position" (vCons true (vC .non) vNil)) vNx)
def r_words_of {K : PySem.W.Frag} {mg : Str → Option Value} (G : Gx K mg) : VS :=
 (vSeq (s_words_of_0 G)
 (vRet (vIf (vTst (vBin true (gn2 (gEq true)) (vName 0) (vC (.str "")))) (vBM "str" true (gn2 gSplit) (vName 0) (vCons true (vC (.str " ")) vNil)) (vLst vNil))))
def s_count_in_0 {K : PySem.W.Frag} {mg : Str → Option Value} (G : Gx K mg) : VS :=
 (vIfS (vOr (vTst (vBin true (gn2 (gEq false)) (vName 0) (vC (.str "")))) (vOr (vTst (vBin true (gn2 (gEq false)) (vBin true (gn2 gIx) (vName 0) (vC (.int 0))) (vC (.str "0")))) (vNot (vTst (vArg (gn1 (gBls fun bs => bs.all id)) (vCons true (vLc (vStrI (vName 0)) (vgName 1) vYes (vBin true (gn2 (gInW false)) (vName 1) (vC (.str "0123456789"))) [1]) vNil)))))) (vRet (vC .non)) vNx)
def r_count_in {K : PySem.W.Frag} {mg : Str → Option Value} (G : Gx K mg) : VS :=
 (vSeq (s_count_in_0 G)
 (vRet (vArg (gn1 gInt1) (vCons true (vName 0) vNil))))
def s_parse_log_0 {K : PySem.W.Frag} {mg : Str → Option Value} (G : Gx K mg) : VS :=
 (vIfS (vNot (vTst (vCall (none :: []) [] (sp_is_key G) (vCons true (vName 3) vNil)))) (vRaiseF G.C_InvalidText "position" (vCons true (vName 2) vNil)) vNx)
def r_parse_log {K : PySem.W.Frag} {mg : Str → Option Value} (G : Gx K mg) : VS :=
 (vSeq (vSet 1 (vCall (none :: []) [] (sp_words_of G) (vCons true (vName 0) vNil)))
 (vSeq (vForX (vEnumP (vCons true (vPlN 1) vNil)) (vgTup 2 (vgCons (vgName 2) (vgCons (vgName 3) vgNil))) (s_parse_log_0 G))
 (vRet (vUnN (vMove 1)))))
def s_parse_counted_0 {K : PySem.W.Frag} {mg : Str → Option Value} (G : Gx K mg) : VS :=
 (vIfS (vOr (vNot (vTst (vCall (none :: []) [] (sp_is_key G) (vCons true (vFrz 5) vNil)))) (vOr (vTst (vBin true (gn2 (gIsN false)) (vName 8) (vC .non))) (vTst (vBin true (gn2 gLe) (vName 8) (vDget2 (vName 2) (vName 5) (vC (.int 0))))))) (vRaiseF G.C_InvalidText "position" (vCons true (vName 3) vNil)) vNx)
def s_parse_counted_1 {K : PySem.W.Frag} {mg : Str → Option Value} (G : Gx K mg) : VS :=
 (vSeq (vAsg (vBM "str" true (gn2 gPartition) (vName 4) (vCons true (vC (.str "#")) vNil)) (vgTup 3 (vgCons (vgName 5) (vgCons (vgName 6) (vgCons (vgName 7) vgNil)))))
 (vSeq (vSet 8 (vCall (none :: []) [] (sp_count_in G) (vCons true (vFrz 7) vNil)))
 (vSeq (s_parse_counted_0 G)
 (vSeq (vDrop (vMut 1 "list" mAppend (vCons true (vTup (vCons false (vFrz 5) (vCons true (vFrz 8) vNil))) vNil)))
 (vAsg (vFrz 8) (vgSub 2 true (vName 5)))))))
def r_parse_counted {K : PySem.W.Frag} {mg : Str → Option Value} (G : Gx K mg) : VS :=
 (vSeq (vSet 1 (vLst vNil))
 (vSeq (vSet 2 vDnew)
 (vSeq (vFor (vEnum (vCons true (vFz (vCall (none :: []) [] (sp_words_of G) (vCons true (vName 0) vNil))) vNil)) (vgTup 2 (vgCons (vgName 3) (vgCons (vgName 4) vgNil))) (s_parse_counted_1 G))
 (vRet (vMove 1)))))
def s_parse_run_0 {K : PySem.W.Frag} {mg : Str → Option Value} (G : Gx K mg) : VS :=
 (vIfS (vTst (vBin true (gn2 (gInW true)) (vName 5) (vName 2))) (vDrop (vMut 2 "list" mAppend (vCons true (vFrz 5) vNil))) vNx)
def s_parse_run_1 {K : PySem.W.Frag} {mg : Str → Option Value} (G : Gx K mg) : VS :=
 (vSeq (s_parse_run_0 G)
 (vDrop (vMut 1 "list" mAppend (vCons true (vTup (vCons false (vC (.str "write")) (vCons true (vFrz 5) vNil))) vNil))))
def s_parse_run_2 {K : PySem.W.Frag} {mg : Str → Option Value} (G : Gx K mg) : VS :=
 (vIfS (vAnd (vTst (vBin true (gn2 (gEq false)) (vSl true (vName 4) vNoPart (vPart (vC (.int 1)))) (vC (.str "+")))) (vTst (vCall (none :: []) [] (sp_is_key G) (vCons true (vFrz 5) vNil)))) (s_parse_run_1 G) (vRaiseF G.C_InvalidText "position" (vCons true (vName 3) vNil)))
def s_parse_run_3 {K : PySem.W.Frag} {mg : Str → Option Value} (G : Gx K mg) : VS :=
 (vSeq (vDrop (vMut 2 "list" mPopAt (vCons true (vC (.int 0)) vNil)))
 (vDrop (vMut 1 "list" mAppend (vCons true (vTup (vCons true (vC (.str "send")) vNil)) vNil))))
def s_parse_run_4 {K : PySem.W.Frag} {mg : Str → Option Value} (G : Gx K mg) : VS :=
 (vIfS (vAnd (vTst (vBin true (gn2 (gEq false)) (vName 4) (vC (.str "!")))) (vTst (vBin true (gn2 (gEq true)) (vName 2) (vLst vNil)))) (s_parse_run_3 G) (s_parse_run_2 G))
def s_parse_run_5 {K : PySem.W.Frag} {mg : Str → Option Value} (G : Gx K mg) : VS :=
 (vSeq (vSet 5 (vSl true (vName 4) (vPart (vC (.int 1))) vNoPart))
 (s_parse_run_4 G))
def r_parse_run {K : PySem.W.Frag} {mg : Str → Option Value} (G : Gx K mg) : VS :=
 (vSeq (vSet 1 (vLst vNil))
 (vSeq (vSet 2 (vLst vNil))
 (vSeq (vFor (vEnum (vCons true (vFz (vCall (none :: []) [] (sp_words_of G) (vCons true (vName 0) vNil))) vNil)) (vgTup 2 (vgCons (vgName 3) (vgCons (vgName 4) vgNil))) (s_parse_run_5 G))
 (vRet (vMove 1)))))
def s__law_source_0 {K : PySem.W.Frag} {mg : Str → Option Value} (G : Gx K mg) : VS :=
 (vIfS (vTst (vBin true (gn2 gLt) (vName 1) (vArg (gn1 gLen) (vCons true (vName 0) vNil)))) (vSet 2 (vBin true (gn2 gIx) (vName 0) (vName 1))) vNx)
def r__law_source {K : PySem.W.Frag} {mg : Str → Option Value} (G : Gx K mg) : VS :=
 (vSeq (vSet 2 (vC (.int 0)))
 (vSeq (s__law_source_0 G)
 (vRet (vLst (vCons true (vArg (gn2 (gI2 fun i j => if j > i then j else i)) (vCons true (vC (.int 0)) (vCons true (vBin true (gn2 gSub) (vName 2) (vBin true (gn2 gPow) (vC (.int 10)) (vC (.int 18)))) vNil))) (vCons true (vBin true (gn2 gAdd) (vBin true (gn2 gMod) (vName 2) (vBin true (gn2 gAdd) (vBin true (gn2 gPow) (vC (.int 10)) (vC (.int 40))) (vC (.int 121)))) (vBin true (gn2 gMul) (vC (.int 7919)) (vBin true (gn2 gAdd) (vName 1) (vC (.int 1))))) (vCons true (vC (.int 0)) vNil)))))))
def s__law_draw_0 {K : PySem.W.Frag} {mg : Str → Option Value} (G : Gx K mg) : VS :=
 (vSeq (vSet 2 (vBin true (gn2 gMod) (vBin true (gn2 gIx) (vName 0) (vC (.int 0))) (vName 1)))
 (vSeq (vAsg (vBin true (gn2 gDiv) (vBin true (gn2 gIx) (vName 0) (vC (.int 0))) (vName 1)) (vgSub 0 true (vC (.int 0))))
 (vRet (vMove 2))))
def s__law_draw_1 {K : PySem.W.Frag} {mg : Str → Option Value} (G : Gx K mg) : VS :=
 (vIfS (vTst (vBin true (gn2 gGt) (vBin true (gn2 gIx) (vName 0) (vC (.int 0))) (vC (.int 0)))) (s__law_draw_0 G) vNx)
def r__law_draw {K : PySem.W.Frag} {mg : Str → Option Value} (G : Gx K mg) : VS :=
 (vSeq (s__law_draw_1 G)
 (vSeq (vAsg (vBin true (gn2 gAdd) (vBin true (gn2 gIx) (vName 0) (vC (.int 2))) (vC (.int 1))) (vgSub 0 true (vC (.int 2))))
 (vSeq (vSet 3 (vBin true (gn2 gMod) (vBin true (gn2 gPow) (vBin true (gn2 gAdd) (vBin true (gn2 gIx) (vName 0) (vC (.int 1))) (vBin true (gn2 gMul) (vC (.int 982451653)) (vBin true (gn2 gIx) (vName 0) (vC (.int 2))))) (vC (.int 3))) (vBin true (gn2 gAdd) (vBin true (gn2 gPow) (vC (.int 10)) (vC (.int 41))) (vC (.int 37)))))
 (vSeq (vSet 3 (vBin true (gn2 gMod) (vBin true (gn2 gPow) (vBin true (gn2 gAdd) (vName 3) (vBin true (gn2 gMul) (vC (.int 57885161)) (vBin true (gn2 gIx) (vName 0) (vC (.int 2))))) (vC (.int 3))) (vBin true (gn2 gAdd) (vBin true (gn2 gPow) (vC (.int 10)) (vC (.int 40))) (vC (.int 121)))))
 (vRet (vBin true (gn2 gMod) (vBin true (gn2 gDiv) (vName 3) (vC (.int 262147))) (vName 1)))))))
def r__law_some {K : PySem.W.Frag} {mg : Str → Option Value} (G : Gx K mg) : VS :=
 (vSeq (vSet 3 (vArg (gn1 gList1) (vCons true (vName 1) vNil)))
 (vRet (vLc (vRng1 (vCons true (vName 2) vNil)) (vgName 4) vYes (vMut 3 "list" mPopAt (vCons true (vCall (some 0 :: none :: []) [] (sp__law_draw G) (vLent 0 (vCons true (vArg (gn1 gLen) (vCons true (vName 3) vNil)) vNil))) vNil)) [4])))
def r__law_keys {K : PySem.W.Frag} {mg : Str → Option Value} (G : Gx K mg) : VS :=
 (vSeq (vSet 2 (vLst (vCons true (vC (.str "a")) (vCons true (vC (.str "b")) (vCons true (vC (.str "c")) (vCons true (vC (.str "d")) (vCons true (vC (.str "key_1")) (vCons true (vBin true (gn2 gMul) (vC (.str "x")) (vC (.int 12))) (vCons true (vC (.str "write")) (vCons true (vC (.str "send")) (vCons true (vC (.str "z9")) (vCons true (vC (.str "log")) (vCons true (vC (.str "sure")) (vCons true (vC (.str "q_")) (vCons true (vC (.str "m0")) (vCons true (vC (.str "n")) (vCons true (vC (.str "k")) vNil)))))))))))))))))
 (vRet (vCall (some 0 :: none :: none :: []) [] (sp__law_some G) (vLent 0 (vCons true (vBinN (gn2 gAdd) 2 (vLc (vRng1 (vCons true (vC (.int 200)) vNil)) (vgName 3) vYes (vBin true (gn2 gAdd) (vC (.str "p")) (vArg (gn1 gStrD) (vCons true (vName 3) vNil))) [3])) (vCons true (vName 1) vNil))))))
def s__law_log_0 {K : PySem.W.Frag} {mg : Str → Option Value} (G : Gx K mg) : VS :=
 (vIfS (vAnd (vTst (vBin true (gn2 (gEq false)) (vName 3) (vC (.int 1)))) (vTst (vBin true (gn2 gGt) (vCall (some 0 :: none :: []) [] (sp__law_draw G) (vLent 0 (vCons true (vC (.int 5)) vNil))) (vC (.int 0))))) (vSet 6 (vBin true (gn2 gIx) (vName 1) (vBin true (gn2 gMod) (vName 5) (vArg (gn1 gLen) (vCons true (vName 1) vNil))))) vNx)
def s__law_log_1 {K : PySem.W.Frag} {mg : Str → Option Value} (G : Gx K mg) : VS :=
 (vIfS (vAnd (vTst (vBin true (gn2 (gEq false)) (vName 3) (vC (.int 2)))) (vAnd (vTst (vBin true (gn2 (gEq true)) (vName 4) (vLst vNil))) (vTst (vBin true (gn2 gGt) (vCall (some 0 :: none :: []) [] (sp__law_draw G) (vLent 0 (vCons true (vC (.int 3)) vNil))) (vC (.int 0)))))) (vSet 6 (vBin true (gn2 gIx) (vName 4) (vUn (gn1 (gI1 fun i => -i)) (vC (.int 1))))) vNx)
def s__law_log_2 {K : PySem.W.Frag} {mg : Str → Option Value} (G : Gx K mg) : VS :=
 (vIfS (vAnd (vTst (vBin true (gn2 (gEq false)) (vName 3) (vC (.int 3)))) (vTst (vBin true (gn2 gGt) (vArg (gn1 gLen) (vCons true (vName 4) vNil)) (vC (.int 3))))) (vSet 6 (vBinN (gn2 gIx) 1 (vBin true (gn2 gMod) (vBin false (gn2 gAdd) (vC (.int 1)) (vBM "list" false (gn2 gIndex) (vName 1) (vCons true (vBinN (gn2 gIx) 4 (vBin false (gn2 gSub) (vUn (gn1 (gI1 fun i => -i)) (vC (.int 1))) (vCall (some 0 :: none :: []) [] (sp__law_draw G) (vLent 0 (vCons true (vC (.int 2)) vNil))))) vNil))) (vArg (gn1 gLen) (vCons true (vName 1) vNil))))) vNx)
def s__law_log_3 {K : PySem.W.Frag} {mg : Str → Option Value} (G : Gx K mg) : VS :=
 (vSeq (vSet 6 (vBinN (gn2 gIx) 1 (vCall (some 0 :: none :: []) [] (sp__law_draw G) (vLent 0 (vCons true (vArg (gn1 gLen) (vCons true (vName 1) vNil)) vNil)))))
 (vSeq (s__law_log_0 G)
 (vSeq (s__law_log_1 G)
 (vSeq (s__law_log_2 G)
 (vDrop (vMut 4 "list" mAppend (vCons true (vFrz 6) vNil)))))))
def r__law_log {K : PySem.W.Frag} {mg : Str → Option Value} (G : Gx K mg) : VS :=
 (vSeq (vPar 3 4 (vCons true (vCall (some 0 :: none :: []) [] (sp__law_draw G) (vLent 0 (vCons true (vC (.int 4)) vNil))) (vCons true (vLst vNil) vNil)))
 (vSeq (vFor (vRng1 (vCons true (vName 2) vNil)) (vgName 5) (s__law_log_3 G))
 (vRet (vMove 4))))
def s__law_run_0 {K : PySem.W.Frag} {mg : Str → Option Value} (G : Gx K mg) : VS :=
 (vIfS (vTst (vBin true (gn2 (gInW true)) (vName 7) (vName 4))) (vDrop (vMut 4 "list" mAppend (vCons true (vFrz 7) vNil))) vNx)
def s__law_run_1 {K : PySem.W.Frag} {mg : Str → Option Value} (G : Gx K mg) : VS :=
 (vSeq (vDrop (vMut 4 "list" mPopAt (vCons true (vC (.int 0)) vNil)))
 (vDrop (vMut 3 "list" mAppend (vCons true (vTup (vCons true (vC (.str "send")) vNil)) vNil))))
def s__law_run_2 {K : PySem.W.Frag} {mg : Str → Option Value} (G : Gx K mg) : VS :=
 (vSeq (vSet 7 (vBinN (gn2 gIx) 1 (vCall (some 0 :: none :: []) [] (sp__law_draw G) (vLent 0 (vCons true (vArg (gn1 gLen) (vCons true (vName 1) vNil)) vNil)))))
 (vSeq (vDrop (vMut 3 "list" mAppend (vCons true (vTup (vCons false (vC (.str "write")) (vCons true (vFrz 7) vNil))) vNil)))
 (s__law_run_0 G)))
def s__law_run_3 {K : PySem.W.Frag} {mg : Str → Option Value} (G : Gx K mg) : VS :=
 (vIfS (vAnd (vTst (vBin true (gn2 (gEq true)) (vName 4) (vLst vNil))) (vTst (vBin true (gn2 (gEq false)) (vCall (some 0 :: none :: []) [] (sp__law_draw G) (vLent 0 (vCons true (vFrz 5) vNil))) (vC (.int 0))))) (s__law_run_1 G) (s__law_run_2 G))
def r__law_run {K : PySem.W.Frag} {mg : Str → Option Value} (G : Gx K mg) : VS :=
 (vSeq (vPar3 3 4 5 (vCons false (vLst vNil) (vCons false (vLst vNil) (vCons true (vBin false (gn2 gAdd) (vC (.int 2)) (vCall (some 0 :: none :: []) [] (sp__law_draw G) (vLent 0 (vCons true (vC (.int 4)) vNil)))) vNil))))
 (vSeq (vFor (vRng1 (vCons true (vName 2) vNil)) (vgName 6) (s__law_run_3 G))
 (vRet (vMove 3))))
def s__law_counted_0 {K : PySem.W.Frag} {mg : Str → Option Value} (G : Gx K mg) : VS :=
 (vSeq (vSet 6 (vBin false (gn2 gAdd) (vBin true (gn2 gAdd) (vDget2 (vName 3) (vName 5) (vC (.int 0))) (vC (.int 1))) (vCall (some 0 :: none :: []) [] (sp__law_draw G) (vLent 0 (vCons true (vFrz 4) vNil)))))
 (vSeq (vAsg (vFrz 6) (vgSub 3 true (vName 5)))
 (vDrop (vMut 2 "list" mAppend (vCons true (vTup (vCons false (vName 5) (vCons true (vFrz 6) vNil))) vNil)))))
def r__law_counted {K : PySem.W.Frag} {mg : Str → Option Value} (G : Gx K mg) : VS :=
 (vSeq (vPar3 2 3 4 (vCons false (vLst vNil) (vCons false vDnew (vCons true (vBin false (gn2 gIx) (vLst (vCons true (vC (.int 1)) (vCons true (vC (.int 2)) (vCons true (vBin true (gn2 gPow) (vC (.int 10)) (vC (.int 9))) (vCons true (vBin true (gn2 gPow) (vC (.int 10)) (vC (.int 27))) vNil))))) (vCall (some 0 :: none :: []) [] (sp__law_draw G) (vLent 0 (vCons true (vC (.int 4)) vNil)))) vNil))))
 (vSeq (vFor (vSeqI .lst (vName 1)) (vgName 5) (s__law_counted_0 G))
 (vRet (vMove 2))))
def s__law_text_0 {K : PySem.W.Frag} {mg : Str → Option Value} (G : Gx K mg) : VS :=
 (vIfS (vTst (vBin true (gn2 (gEq false)) (vName 0) (vC (.int 0)))) (vRet (vBM "str" true (gn2 gJoin) (vC (.str " ")) (vCons true (vName 1) vNil))) vNx)
def s__law_text_1 {K : PySem.W.Frag} {mg : Str → Option Value} (G : Gx K mg) : VS :=
 (vIfS (vTst (vBin true (gn2 (gEq false)) (vName 0) (vC (.int 1)))) (vRet (vBM "str" false (gn2 gJoin) (vC (.str " ")) (vCons true (vLc (vSeqI .lst (vName 1)) (vgTup 2 (vgCons (vgName 2) (vgCons (vgName 3) vgNil))) vYes (vBin true (gn2 gAdd) (vBin true (gn2 gAdd) (vName 2) (vC (.str "#"))) (vArg (gn1 gStrD) (vCons true (vName 3) vNil))) [2, 3]) vNil))) vNx)
def r__law_text {K : PySem.W.Frag} {mg : Str → Option Value} (G : Gx K mg) : VS :=
 (vSeq (s__law_text_0 G)
 (vSeq (s__law_text_1 G)
 (vRet (vBM "str" false (gn2 gJoin) (vC (.str " ")) (vCons true (vLc (vSeqI .lst (vName 1)) (vgName 4) vYes (vIf (vTst (vBin true (gn2 (gEq false)) (vName 4) (vTup (vCons true (vC (.str "send")) vNil)))) (vC (.str "!")) (vBin true (gn2 gAdd) (vC (.str "+")) (vBin true (gn2 gIx) (vName 4) (vC (.int 1))))) [4]) vNil)))))
def r__law_written {K : PySem.W.Frag} {mg : Str → Option Value} (G : Gx K mg) : VS :=
 (vRet (vCallX [(G.f_format_log, sp_format_log G), (G.f_format_counted, sp_format_counted G), (G.f_format_run, sp_format_run G)] (none :: []) (vBin true (gn2 gIx) (vLst (vCons true (vC (.adr G.f_format_log)) (vCons true (vC (.adr G.f_format_counted)) (vCons true (vC (.adr G.f_format_run)) vNil)))) (vName 0)) (vCons true (vName 1) vNil)))
def r__law_read {K : PySem.W.Frag} {mg : Str → Option Value} (G : Gx K mg) : VS :=
 (vRet (vCallX [(G.f_parse_log, sp_parse_log G), (G.f_parse_counted, sp_parse_counted G), (G.f_parse_run, sp_parse_run G)] (none :: []) (vBin true (gn2 gIx) (vLst (vCons true (vC (.adr G.f_parse_log)) (vCons true (vC (.adr G.f_parse_counted)) (vCons true (vC (.adr G.f_parse_run)) vNil)))) (vName 0)) (vCons true (vName 1) vNil)))
def s__law_right_0 {K : PySem.W.Frag} {mg : Str → Option Value} (G : Gx K mg) : VS :=
 (vIfS (vOr (vTst (vBin true (gn2 (gEq true)) (vArg (gn1 gReprD) (vCons true (vCall (none :: none :: []) [] (sp__law_written G) (vCons true (vName 0) (vCons true (vName 1) vNil))) vNil)) (vArg (gn1 gReprD) (vCons true (vName 3) vNil)))) (vTst (vBin true (gn2 (gEq true)) (vArg (gn1 gReprD) (vCons true (vName 1) vNil)) (vName 2)))) (vRet (vC (.bl false))) vNx)
def s__law_right_1 {K : PySem.W.Frag} {mg : Str → Option Value} (G : Gx K mg) : VS :=
 (vIfS (vTst (vBin true (gn2 (gEq true)) (vArg (gn1 gReprD) (vCons true (vName 5) vNil)) (vName 2))) (vRet (vC (.bl false))) vNx)
def s__law_right_2 {K : PySem.W.Frag} {mg : Str → Option Value} (G : Gx K mg) : VS :=
 (vSeq (vSet 5 (vCall (none :: none :: []) [] (sp__law_read G) (vCons false (vName 0) (vCons true (vFrz 3) vNil))))
 (vSeq (s__law_right_1 G)
 (vDrop (vMut 5 "list" mAppend (vCons true (vC .non) vNil)))))
def r__law_right {K : PySem.W.Frag} {mg : Str → Option Value} (G : Gx K mg) : VS :=
 (vSeq (vPar 2 3 (vCons true (vArg (gn1 gReprD) (vCons true (vName 1) vNil)) (vCons true (vCall (none :: none :: []) [] (sp__law_text G) (vCons true (vName 0) (vCons true (vName 1) vNil))) vNil)))
 (vSeq (s__law_right_0 G)
 (vSeq (vFor (vRng1 (vCons true (vC (.int 2)) vNil)) (vgName 4) (s__law_right_2 G))
 (vRet (vC (.bl true))))))
def s_law_0 {K : PySem.W.Frag} {mg : Str → Option Value} (G : Gx K mg) : VS :=
 (vIfS (vNot (vTst (vCallP (none :: none :: []) [] (sp__law_right G) (vCons false (vName 10) (vCons true (vPlI (vPlN 9) (vName 10)) vNil))))) (vRet (vC (.bl false))) vNx)
def s_law_1 {K : PySem.W.Frag} {mg : Str → Option Value} (G : Gx K mg) : VS :=
 (vIfS (vTst (vBin true (gn2 (gEq true)) (vRes (vName 11)) (vLst vNil))) (vDrop (vMutP "list" mPop (vPlN 11) vNil)) vNx)
def s_law_2 {K : PySem.W.Frag} {mg : Str → Option Value} (G : Gx K mg) : VS :=
 (vIfS (vNot (vTst (vCallP (none :: none :: []) [] (sp__law_right G) (vCons false (vName 10) (vCons true (vPlI (vPlN 9) (vName 10)) vNil))))) (vRet (vC (.bl false))) vNx)
def s_law_3 {K : PySem.W.Frag} {mg : Str → Option Value} (G : Gx K mg) : VS :=
 (vSeq (vAsg (vBin false (gn2 gIx) (vLst (vCons true (vTup (vCons true (vC (.int 20)) (vCons true (vC (.int 20)) vNil))) (vCons true (vTup (vCons true (vC (.int 200)) (vCons true (vC (.int 1000)) vNil))) vNil))) (vBin false (gn2 gMul) (vArg (gn1 gInt1) (vCons true (vAndV (vBin true (gn2 (gEq false)) (vName 1) (vC (.int 0))) (vBin true (gn2 (gEq false)) (vName 4) (vC (.int 0)))) vNil)) (vCall (some 2 :: none :: []) [] (sp__law_draw G) (vLent 2 (vCons true (vC (.int 2)) vNil))))) (vgTup 2 (vgCons (vgName 5) (vgCons (vgName 6) vgNil))))
 (vSeq (vSet 7 (vIf (vTst (vBin true (gn2 (gEq false)) (vName 5) (vC (.int 200)))) (vFz (vCall (some 2 :: none :: []) [] (sp__law_keys G) (vLent 2 (vCons true (vC (.int 200)) vNil)))) (vFrz 3)))
 (vSeq (vSet 8 (vCall (some 2 :: none :: none :: []) [] (sp__law_log G) (vLent 2 (vCons false (vFrz 7) (vCons true (vBin false (gn2 gIx) (vLst (vCons false (vCall (some 2 :: none :: []) [] (sp__law_draw G) (vLent 2 (vCons true (vBin true (gn2 gAdd) (vName 5) (vC (.int 1))) vNil))) (vCons true (vFrz 5) vNil))) (vCall (some 2 :: none :: []) [] (sp__law_draw G) (vLent 2 (vCons true (vC (.int 2)) vNil)))) vNil)))))
 (vSeq (vSet 9 (vLst (vCons false (vPlN 8) (vCons false (vCallP (some 2 :: none :: []) [] (sp__law_counted G) (vLent 2 (vCons true (vPlN 8) vNil))) (vCons true (vCall (some 2 :: none :: none :: []) [] (sp__law_run G) (vLent 2 (vCons false (vFrz 7) (vCons true (vCall (some 2 :: none :: []) [] (sp__law_draw G) (vLent 2 (vCons true (vBin true (gn2 gAdd) (vName 6) (vC (.int 1))) vNil))) vNil)))) vNil)))))
 (vSeq (vFor (vRng1 (vCons true (vC (.int 3)) vNil)) (vgName 10) (s_law_0 G))
 (vSeq (vDrop (vMutP "list" (mMap List.reverse) (vPlN 8) vNil))
 (vSeq (vForX (vSeqS (vSlS (vKids (vPlN 9)) (vPart (vC (.int 1))) vNoPart)) (vgName 11) (s_law_1 G))
 (vFor (vRng1 (vCons true (vC (.int 3)) vNil)) (vgName 10) (s_law_2 G)))))))))
def s_law_4 {K : PySem.W.Frag} {mg : Str → Option Value} (G : Gx K mg) : VS :=
 (vSeq (vSet 2 (vCall (none :: none :: []) [] (sp__law_source G) (vCons true (vName 0) (vCons true (vName 1) vNil))))
 (vSeq (vSet 3 (vCall (some 2 :: none :: []) [] (sp__law_keys G) (vLent 2 (vCons true (vBin false (gn2 gAdd) (vC (.int 1)) (vCall (some 2 :: none :: []) [] (sp__law_draw G) (vLent 2 (vCons true (vC (.int 8)) vNil)))) vNil))))
 (vFor (vRng1 (vCons true (vC (.int 3)) vNil)) (vgName 4) (s_law_3 G))))
def s_law_5 {K : PySem.W.Frag} {mg : Str → Option Value} (G : Gx K mg) : VS :=
 (vIfS (vTst (vBin true (gn2 (gEq true)) (vCall (none :: []) [] (sp_format_counted G) (vCons true (vFz (vLst (vCons true (vTup (vCons true (vC (.str "a")) (vCons true (vBin true (gn2 gPow) (vC (.int 10)) (vC (.int 29))) vNil))) vNil))) vNil)) (vBin true (gn2 gAdd) (vC (.str "a#1")) (vBin true (gn2 gMul) (vC (.str "0")) (vC (.int 29)))))) (vRet (vC (.bl false))) vNx)
def t_law_2 {K : PySem.W.Frag} {mg : Str → Option Value} (G : Gx K mg) : VS :=
 (vRet (vBin true (gn2 (gEq false)) (vLc (vRng1 (vCons true (vC (.int 3)) vNil)) (vgName 10) vYes (vFz (vCall (none :: none :: []) [] (sp__law_right G) (vCons true (vName 10) (vCons true (vFz (vLst vNil)) vNil)))) [10]) (vBin true (gn2 gMul) (vLst (vCons true (vC (.bl true)) vNil)) (vC (.int 3)))))
def t_law_1 {K : PySem.W.Frag} {mg : Str → Option Value} (G : Gx K mg) : VS :=
 (vSeq (s_law_5 G)
 (t_law_2 G))
def r_law {K : PySem.W.Frag} {mg : Str → Option Value} (G : Gx K mg) : VS :=
 (vSeq (vFor (vRng1 (vCons true (vArg (gn2 (gI2 fun i j => if j > i then j else i)) (vCons true (vC (.int 1)) (vCons true (vArg (gn2 (gI2 fun i j => if j < i then j else i)) (vCons true (vC (.int 6)) (vCons true (vArg (gn1 gLen) (vCons true (vName 0) vNil)) vNil))) vNil))) vNil)) (vgName 1) (s_law_4 G))
 (t_law_1 G))
end VL.L59
namespace VL.L59
open PySem PySem.Spec L2
theorem p__law_draw {K : PySem.W.Frag} {mg : Str → Option Value} (G : Gx K mg) : PureV 2 4 [0] (r__law_draw G) (sp__law_draw G) := by
  intro os φ ε h _
  obtain ⟨n, o, l, rfl, ⟨a, b, c, rfl, hb0, hb1, hc0, hc1⟩, hn, hl0, hl1, hk⟩ := h
  have hn' : (n : Int) < 2 ^ 100 := by
    have : (n : Int) < ((2 ^ 100 : Nat) : Int) := Int.ofNat_lt.mpr hn
    simpa using this
  simp [r__law_draw, s__law_draw_0, s__law_draw_1, srcD, outsOf, atI, ixN]
  by_cases h : 0 < a
  · rw [if_pos h]
    exact ⟨hl0, ⟨hl0, Nat.lt_of_lt_of_le (log_lt hl0 hl1) (by decide)⟩, hk _ _ (Int.emod_nonneg _ (by omega)) (Int.emod_lt_of_pos _ hl0) ⟨a / l, b, c, rfl, hb0, hb1, hc0, by omega⟩⟩
  · rw [if_neg h]
    have h1 : Builtin.Int.intBits (c + 1) ≤ 101 := bits_lt (by omega) (by omega)
    have h2 : Builtin.Int.intBits (b + 982451653 * (c + 1)) ≤ 200 := bits_lt (by omega) (by omega)
    have h3 : Builtin.Int.intBits ((b + 982451653 * (c + 1)) ^ 3 % 100000000000000000000000000000000000000037 + 57885161 * (c + 1)) ≤ 200 := by
      have e1 := Int.emod_nonneg ((b + 982451653 * (c + 1)) ^ 3) (b := 100000000000000000000000000000000000000037) (by decide)
      have e2 := Int.emod_lt_of_pos ((b + 982451653 * (c + 1)) ^ 3) (b := 100000000000000000000000000000000000000037) (by decide)
      exact bits_lt (by omega) (by omega)
    have h4 : Builtin.Int.intBits 982451653 ≤ 64 := by decide +kernel
    have h5 : Builtin.Int.intBits 57885161 ≤ 64 := by decide +kernel
    have h6 : Builtin.Int.intBits 10 ≤ 64 := by decide +kernel
    exact ⟨by omega, by omega, by omega, by omega, by omega, by omega, by decide +kernel, hl0, hk _ _ (Int.emod_nonneg _ (by omega)) (Int.emod_lt_of_pos _ hl0) ⟨a, b, c + 1, rfl, hb0, hb1, by omega, by omega⟩⟩
theorem p__law_source {K : PySem.W.Frag} {mg : Str → Option Value} (G : Gx K mg) : PureV 2 3 [] (r__law_source G) (sp__law_source G) := by
  intro os φ ε h _
  obtain ⟨ns, k, rfl, hk0, hk1, hk⟩ := h
  simp [r__law_source, s__law_source_0, outsOf, scriptDs, -x_ret]
  generalize hR : (vRet (vLst _) : VS) = R
  have key : ∀ cell : Int, R [.sh (.nd .fzl (ns.map fun n => D.sc (.int n))), .sh (.sc (.int k)), .sh (.sc (.int cell))] { nx := fun ρ => φ (.sh (.sc .non)) [], rt := fun o ρ => φ o [] } fun e ρ => ε e [] := by
    intro cell
    subst hR
    have h1 : Builtin.Int.intBits (k + 1) ≤ 64 := bits_lt (by omega) (by omega)
    have h2 : Builtin.Int.intBits 7919 ≤ 64 := by decide +kernel
    have h6 : Builtin.Int.intBits 10 ≤ 64 := by decide +kernel
    simp [gNew, isBor, mkLst, shL]
    have e1 := Int.emod_nonneg cell (b := 10000000000000000000000000000000000000121) (by decide)
    have e2 := Int.emod_lt_of_pos cell (b := 10000000000000000000000000000000000000121) (by decide)
    exact ⟨by omega, by omega, by omega, by decide, hk _ ⟨_, _, _, rfl, by omega, by omega, by omega, by omega⟩⟩
  by_cases h : k < ns.length
  · rw [if_pos h]
    obtain ⟨x, hx, hm⟩ := atI_get (xs := ns.map fun n => D.sc (.int n)) hk0 (by rw [List.length_map]; exact h)
    rw [hx]
    obtain ⟨c, _, rfl⟩ := List.mem_map.mp hm
    exact key c
  · rw [if_neg h]
    exact key 0
end VL.L59

namespace VL.L59
open PySem PySem.Spec L2
theorem Src.kill {n : Nat} {o : O} (h : Src n o) : VL.kill o = o := by obtain ⟨a, b, c, rfl, _⟩ := h; rfl
theorem Src.own {n : Nat} {o : O} (h : Src n o) : ∃ ds, o = .ow .lst ds := by obtain ⟨a, b, c, rfl, _⟩ := h; exact ⟨_, rfl⟩
theorem Src.le {n m : Nat} {o : O} (h : Src n o) (hm : n ≤ m) : Src m o := by obtain ⟨a, b, c, rfl, h1, h2, h3, h4⟩ := h; exact ⟨a, b, c, rfl, h1, h2, h3, by omega⟩
theorem loop_some {K : PySem.W.Frag} {mg : Str → Option Value} (G : Gx K mg) {xs : List D} {t m : O} {φ : List D → VL.Env → Prop} {ε : XP} (ht : kill t = t) (hm : kill m = m) : ∀ (ds acc ys : List D) (n : Nat) (o x : O), Src n o → n + ds.length < 2 ^ 100 → ds.length ≤ ys.length → ys.length ≤ 2 ^ 20 → acc.length + ds.length ≤ 2 ^ 20 → (∀ y ∈ ys, y ∈ xs) →
    (∀ (zs : List D) o' w x', zs.length = ds.length → (∀ y ∈ zs, y ∈ xs) → Src (n + ds.length) o' → φ (acc ++ zs) [o', t, m, w, x']) →
    vLcL (vgName 4) vYes (vMut 3 "list" mPopAt (vCons true (vCall (some 0 :: none :: []) [] (sp__law_draw G) (vLent 0 (vCons true (vArg (gn1 gLen) (vCons true (vName 3) vNil)) vNil))) vNil)) [4] ds acc [o, t, m, .ow .lst ys, x] φ ε
  | [], acc, ys, n, o, x, hs, hn, hl, hz, ha, hy, h => by
    have := h [] o (.ow .lst ys) x rfl (by simp) hs
    rw [List.append_nil] at this
    exact this
  | d :: ds, acc, ys, n, o, x, ⟨a, b, c, ho, hb0, hb1, hc0, hc1⟩, hn, hl, hz, ha, hy, h => by
    rw [List.length_cons] at hn hl ha
    subst ho
    simp [vLcL, wipeE, x_killAll, sp__law_draw, ht, hm]
    refine ⟨n, _, _, ⟨rfl, rfl⟩, ⟨a, b, c, rfl, hb0, hb1, hc0, hc1⟩, by omega, by omega, by omega, fun r o' hr0 hr1 hs' => popAt_of hr0 hr1 (by omega) fun hr => ?_⟩
    rw [hs'.kill, hs'.kill]
    refine ⟨Nat.lt_of_lt_of_le (show acc.length < 2 ^ 20 by omega) (by decide), ?_⟩
    refine loop_some G ht hm ds (acc ++ [ys[r.toNat]]) (ys.eraseIdx r.toNat) (n + 1) o' _ hs' (by omega) ?_ ?_ (by simp; omega) (fun y hy' => hy y (List.mem_of_mem_eraseIdx hy')) fun zs o2 w x' hz1 hz2 hs2 => ?_
    · rw [List.length_eraseIdx_of_lt hr]; omega
    · rw [List.length_eraseIdx_of_lt hr]; omega
    · have := h (ys[r.toNat] :: zs) o2 w x' (by rw [List.length_cons, List.length_cons, hz1]) (fun y hy' => by
        rcases List.mem_cons.mp hy' with e | e
        · rw [e]; exact hy _ (List.getElem_mem hr)
        · exact hz2 y e) (hs2.le (by rw [List.length_cons]; omega))
      rw [List.append_assoc]
      exact this
theorem p__law_some {K : PySem.W.Frag} {mg : Str → Option Value} (G : Gx K mg) : PureV 3 5 [0] (r__law_some G) (sp__law_some G) := by
  intro os φ ε h _
  obtain ⟨n, o, xs, l, rfl, hs, hn, hl0, hl1, hz, hk⟩ := h
  have hkl := hs.kill
  obtain ⟨a, b, c, rfl, hb0, hb1, hc0, hc1⟩ := hs
  simp [r__law_some, outsOf]
  refine ⟨by omega, ?_⟩
  refine loop_some G (xs := xs) rfl rfl _ _ _ n _ _ ⟨a, b, c, rfl, hb0, hb1, hc0, hc1⟩ ?_ ?_ hz ?_ (fun y hy => hy) fun zs o' w x' hz1 hz2 hs2 => ?_
  · rw [intsD_len]; omega
  · rw [intsD_len]; omega
  · rw [intsD_len, List.length_nil]; omega
  · rw [intsD_len] at hz1 hs2
    simp [wipeE]
    exact hk zs o' hz1 hz2 hs2
end VL.L59

namespace VL.L59
open PySem PySem.Spec L2
/-- keys of a number -/
theorem pkeys : (List.range 200).all (fun i => isKey (Str.ofString "p" ++ numS (i : Nat))) = true := by decide +kernel
def baseWords : List Str := ["a", "b", "c", "d", "key_1", repS "x" 12, "write", "send", "z9", "log", "sure", "q_", "m0", "n", "k"]
theorem baseWords_ok : baseWords.all isKey = true := by decide +kernel
theorem keys_of {W2 : List Str} (hW : (List.range 200).map (fun i : Nat => Str.ofString "p" ++ numS i) = W2) : ∀ {ys : List D}, (∀ y ∈ ys, y ∈ baseWords.map strD ++ W2.map strD) → ∃ ks : List Str, ys = ks.map strD ∧ ∀ k ∈ ks, isKey k = true
  | [], _ => ⟨[], rfl, fun _ h => by cases h⟩
  | y :: ys, h => by
    obtain ⟨ks, e, hk⟩ := keys_of hW (ys := ys) fun z hz => h z (List.mem_cons_of_mem _ hz)
    have hy := h y List.mem_cons_self
    rw [← List.map_append] at hy
    obtain ⟨x, hx, rfl⟩ := List.mem_map.mp hy
    refine ⟨x :: ks, by rw [e]; rfl, fun k hk' => ?_⟩
    rcases List.mem_cons.mp hk' with e | hk'
    · subst e
      rcases List.mem_append.mp hx with hx | hx
      · exact List.all_eq_true.mp baseWords_ok _ hx
      · rw [← hW] at hx
        obtain ⟨i, hi, rfl⟩ := List.mem_map.mp hx
        exact List.all_eq_true.mp pkeys i hi
    · exact hk k hk'
theorem p__law_keys {K : PySem.W.Frag} {mg : Str → Option Value} (G : Gx K mg) : PureV 2 4 [0] (r__law_keys G) (sp__law_keys G) := by
  intro os φ ε h _
  obtain ⟨n, o, l, rfl, hs, hn, hl0, hl1, hk⟩ := h
  have hkl := hs.kill
  obtain ⟨a, b, c, rfl, hb0, hb1, hc0, hc1⟩ := hs
  simp [r__law_keys, outsOf, gNew, isBor, mkLst, shL]
  refine ⟨by decide +kernel, by decide +kernel, ?_⟩
  refine lc_map (W := _) (f := fun d => match d with
    | .sc (.int i) => strD (Str.ofString "p" ++ numS i)
    | d => d) _ rfl (by rw [intsD_len]; decide +kernel) (fun d hd φ' hφ => ?_) fun ρ2 hw => ?_
  · obtain ⟨i, hi, rfl⟩ := List.mem_map.mp hd
    have hi' := List.mem_range.mp hi
    have e0 : (0 : Int) + (i : Nat) * 1 = (i : Nat) := by omega
    rw [e0] at hφ ⊢
    simp [wipeE]
    refine ⟨logN (Nat.lt_of_lt_of_le hi' (show 200 ≤ 2 ^ 1920 by decide +kernel)) (by decide), ?_, hφ _ _ rfl rfl⟩
    have := numS_len (n := i) (k := 3) (by decide) (by omega)
    have e : (Str.ofString "p").length = 1 := by decide +kernel
    have : sizeLine = 16777216 := by decide +kernel
    omega
  · simp only [hw]
    have e2 : (intsD 0 1 200).map (fun d => match d with
      | .sc (.int i) => strD (Str.ofString "p" ++ numS i)
      | d => d) = ((List.range 200).map fun i : Nat => Str.ofString "p" ++ numS i).map strD := by
      unfold intsD
      rw [List.map_map, List.map_map]
      apply List.map_congr_left
      intro i _
      show strD (Str.ofString "p" ++ numS (0 + (i : Nat) * 1)) = strD (Str.ofString "p" ++ numS (i : Nat))
      rw [show (0 : Int) + (i : Nat) * 1 = (i : Nat) by omega]
    simp only [e2, List.nil_append]
    generalize hW : (List.range 200).map (fun i : Nat => Str.ofString "p" ++ numS i) = W2
    simp [wipeE, x_killAll, sp__law_some]
    refine ⟨?_, n, _, _, l, ⟨rfl, rfl, rfl⟩, ⟨a, b, c, rfl, hb0, hb1, hc0, hc1⟩, by omega, hl0, ?_, ?_, fun ys o' h1 h2 h3 => ?_⟩
    · rw [← hW, List.length_map, List.length_range]; decide +kernel
    · rw [← hW]; simp; omega
    · rw [← hW]; simp
    · obtain ⟨ks, rfl, hks⟩ : ∃ ks : List Str, ys = ks.map strD ∧ ∀ k ∈ ks, isKey k = true := keys_of hW h2
      exact hk ks o' (by rw [← h1, List.length_map]) hks h3
end VL.L59

namespace VL.L59
open PySem PySem.Spec L2
theorem isKey_ok {x : Str} (h : isKey x = true) : PyData.strOk x = true := by
  unfold isKey at h
  rw [Bool.and_eq_true] at h
  have h2 := h.2
  rw [List.all_eq_true] at h2
  unfold PyData.strOk
  rw [← Array.all_toList, List.all_eq_true]
  intro c hc
  have h3 := of_decide_eq_true (h2 c hc)
  have : chrs.cps.toList.all (fun c => decide (c < 0x110000)) = true := by decide +kernel
  exact List.all_eq_true.mp this c h3
theorem isKey_len {x : Str} (h : isKey x = true) : 1 ≤ x.length ∧ x.length ≤ 12 := by
  unfold isKey at h
  rw [Bool.and_eq_true, Bool.and_eq_true] at h
  exact of_decide_eq_true h.1.1
theorem draw_of {K : PySem.W.Frag} {mg : Str → Option Value} (G : Gx K mg) {n : Nat} {o : O} {l : Int} {φ : O → List O → Prop} {ε : Exc → List O → Prop} (hs : Src n o) (hn : n < 2 ^ 100) (h0 : 0 < l) (h1 : l < 2 ^ 200) (h : ∀ r o', 0 ≤ r → r < l → Src (n + 1) o' → φ (.sh (.sc (.int r))) [o']) : sp__law_draw G [o, .sh (.sc (.int l))] φ ε :=
  ⟨n, o, l, rfl, hs, hn, h0, h1, h⟩
section
variable {K : PySem.W.Frag} {mg : Str → Option Value} (G : Gx K mg) {ks ls : List Str} {m : O} {way it : Int} {k : VK} {ε : XP} {n : Nat} {o : O} {x : Str}
abbrev envLog (ks : List Str) (m : O) (way : Int) (ls : List Str) (it : Int) (x : Str) (o : O) : VL.Env := [o, .sh (.nd .lst (ks.map strD)), m, .sh (.sc (.int way)), .ow .lst (ls.map strD), .sh (.sc (.int it)), .sh (strD x)]
theorem st_log0 (hm : kill m = m) (hks : ks ≠ []) (hi : 0 ≤ it) (hs : Src n o) (hn : n < 2 ^ 90) (hx : x ∈ ks) (h : ∀ x' ∈ ks, ∀ o', Src (n + 1) o' → k.nx (envLog ks m way ls it x' o')) : s__law_log_0 G (envLog ks m way ls it x o) k ε := by
  have hk0 := hs.kill
  have hlen : 0 < ks.length := List.length_pos_iff.mpr hks
  obtain ⟨ds, e⟩ := hs.own
  subst e
  simp [s__law_log_0, envLog, x_killAll, hm]
  by_cases hw : way = 1
  · rw [if_pos hw]
    refine draw_of G hs (by omega) (by decide) (by decide) fun r o' h0 h1 hs' => ?_
    have hk1 := hs'.kill
    simp [hk1]
    split
    · refine ⟨hlen, at_strs (Int.le_trans (by omega) (Int.emod_nonneg it (b := ks.length) (by omega))) (Int.emod_lt_of_pos _ (by omega)) fun y hy => h y hy _ hs'⟩
    · exact h x hx _ hs'
  · rw [if_neg hw]
    exact h x hx _ (hs.le (by omega))
theorem st_log1 (hm : kill m = m) (hi : 0 ≤ it) (hs : Src n o) (hn : n < 2 ^ 90) (hx : x ∈ ks) (hl : ∀ y ∈ ls, y ∈ ks) (hok : ∀ y ∈ ks, isKey y = true) (h : ∀ x' ∈ ks, ∀ o', Src (n + 1) o' → k.nx (envLog ks m way ls it x' o')) : s__law_log_1 G (envLog ks m way ls it x o) k ε := by
  have hk0 := hs.kill
  obtain ⟨ds, e⟩ := hs.own
  subst e
  simp [s__law_log_1, envLog, x_killAll, hm]
  by_cases hw : way = 2
  · rw [if_pos hw]
    refine eq_dat (d := .nd .lst (ls.map strD)) (e := .nd .lst []) rfl rfl (Dat.list (n := 0) (g := PyData.str) fun y hy => Dat.str (isKey_ok (hok y (hl y hy)))) (Dat.nil (n := 0)) (by decide) (by decide) (fun s t e => by cases e) ?_
    cases ls with
    | nil =>
      simp [PyData.eqv, PyData.eqvAll]
      exact h x hx _ (hs.le (by omega))
    | cons y ls =>
      simp [PyData.eqv, PyData.eqvAll]
      refine draw_of G hs (by omega) (by decide) (by decide) fun r o' h0 h1 hs' => ?_
      have hk1 := hs'.kill
      simp [hk1]
      split
      · exact at_strs (ks := y :: ls) (by simp; omega) (by simp; omega) fun z hz => h z (hl z hz) _ hs'
      · exact h x hx _ hs'
  · rw [if_neg hw]
    exact h x hx _ (hs.le (by omega))
theorem st_log2 (hm : kill m = m) (hi : 0 ≤ it) (hks : ks ≠ []) (hs : Src n o) (hn : n < 2 ^ 90) (hx : x ∈ ks) (hl : ∀ y ∈ ls, y ∈ ks) (h : ∀ x' ∈ ks, ∀ o', Src (n + 1) o' → k.nx (envLog ks m way ls it x' o')) : s__law_log_2 G (envLog ks m way ls it x o) k ε := by
  have hk0 := hs.kill
  have hlen : 0 < ks.length := List.length_pos_iff.mpr hks
  obtain ⟨ds, e⟩ := hs.own
  subst e
  simp [s__law_log_2, envLog, x_killAll, hm]
  by_cases hw : way = 3
  · rw [if_pos hw]
    split
    · refine ⟨rfl, ?_⟩
      refine draw_of G hs (by omega) (by decide) (by decide) fun r o' h0 h1 hs' => ?_
      have hk1 := hs'.kill
      simp [hk1]
      refine at_strs (by omega) (by omega) fun z hz => idx_strs rfl (hl z hz) fun j hj => ?_
      simp
      refine ⟨hlen, at_strs (Int.le_trans (by omega) (Int.emod_nonneg (1 + (j : Int)) (b := ks.length) (by omega))) (Int.emod_lt_of_pos _ (by omega)) fun y hy => h y hy _ hs'⟩
    · exact h x hx _ (hs.le (by omega))
  · rw [if_neg hw]
    exact h x hx _ (hs.le (by omega))
end
theorem loop_log {K : PySem.W.Frag} {mg : Str → Option Value} (G : Gx K mg) {ks : List Str} {m : O} {way : Int} {k : VK} {ε : XP} (hm : kill m = m) (hks : ks ≠ []) (hkl : ks.length ≤ 2 ^ 20) (hok : ∀ y ∈ ks, isKey y = true) : ∀ (is : List Nat) (ls : List Str) (n : Nat) (o x5 x6 : O), Src n o → n + 4 * is.length < 2 ^ 90 → ls.length + is.length ≤ 2 ^ 20 → (∀ y ∈ ls, y ∈ ks) →
    (∀ (zs : List Str) o' x5 x6, zs.length = ls.length + is.length → (∀ y ∈ zs, y ∈ ks) → Src (n + 4 * is.length) o' → k.nx [o', .sh (.nd .lst (ks.map strD)), m, .sh (.sc (.int way)), .ow .lst (zs.map strD), x5, x6]) →
    vForL (vgName 5) (s__law_log_3 G) (is.map fun i : Nat => D.sc (.int i)) [o, .sh (.nd .lst (ks.map strD)), m, .sh (.sc (.int way)), .ow .lst (ls.map strD), x5, x6] k ε
  | [], ls, n, o, x5, x6, hs, hn, hl, hy, h => h ls o x5 x6 (by simp) hy hs
  | i :: is, ls, n, o, x5, x6, hs, hn, hl, hy, h => by
    have hk0 := hs.kill
    have hlen : 0 < ks.length := List.length_pos_iff.mpr hks
    obtain ⟨ds, e⟩ := hs.own
    subst e
    rw [List.length_cons] at hn hl
    simp [vForL, s__law_log_3, x_killAll, hm]
    refine draw_of G hs (by omega) (by omega) (by omega) fun r o' h0 h1 hs' => ?_
    have hk1 := hs'.kill
    simp [hk1]
    refine at_strs (by omega) h1 fun x hx => ?_
    refine st_log0 G hm hks (by omega) hs' (by omega) hx fun x hx o2 hs2 => ?_
    refine st_log1 G hm (by omega) hs2 (by omega) hx hy hok fun x hx o3 hs3 => ?_
    refine st_log2 G hm (by omega) hks hs3 (by omega) hx hy fun x hx o4 hs4 => ?_
    have hk4 := hs4.kill
    simp [envLog, hk4, hm]
    refine ⟨Nat.lt_of_lt_of_le (show ls.length < 2 ^ 20 by omega) (by decide +kernel), ?_⟩
    have := loop_log G hm hks hkl hok is (ls ++ [x]) (n + 1 + 1 + 1 + 1) o4 (.sh (.sc (.int i))) (.sh (strD x)) (k := k) (ε := ε) hs4 (by omega) (by simp; omega) (fun y hy' => by
      rcases List.mem_append.mp hy' with e | e
      · exact hy y e
      · rw [List.mem_singleton.mp e]; exact hx) fun zs o' x5 x6 h1 h2 h3 => h zs o' x5 x6 (by rw [h1]; simp; omega) h2 (h3.le (by rw [List.length_cons]; omega))
    rw [List.map_append] at this
    exact this
theorem intsD_map (n : Int) : intsD 0 1 n.toNat = (List.range n.toNat).map fun i : Nat => D.sc (.int i) := by
  unfold intsD
  apply List.map_congr_left
  intro i _
  rw [show (0 : Int) + (i : Nat) * 1 = (i : Nat) by omega]
theorem p__law_log {K : PySem.W.Frag} {mg : Str → Option Value} (G : Gx K mg) : PureV 3 7 [0] (r__law_log G) (sp__law_log G) := by
  intro os φ ε h _
  obtain ⟨n, o, ks, l, rfl, hs, hn, hks, hkl, hok, hl0, hl1, hk⟩ := h
  have hk0 := hs.kill
  obtain ⟨ds, e⟩ := hs.own
  subst e
  simp [r__law_log, outsOf, x_killAll]
  refine draw_of G hs (by omega) (by decide) (by decide) fun r o' h0 h1 hs' => ?_
  have hk1 := hs'.kill
  simp [hk1]
  refine ⟨by omega, ?_⟩
  rw [intsD_map]
  refine loop_log G rfl hks hkl hok (List.range l.toNat) [] (n + 1) o' .top .top hs' (by rw [List.length_range]; omega) (by rw [List.length_range, List.length_nil]; omega) (fun y hy => by cases hy) fun zs o2 x5 x6 h1 h2 h3 => ?_
  rw [List.length_range] at h1 h3
  simp
  exact hk zs o2 (by simpa using h1) h2 h3
end VL.L59

namespace VL.L59
open PySem PySem.Spec L2
theorem enq_mem {q ks : List Str} {k : Str} (hq : ∀ y ∈ q, y ∈ ks) (hk : k ∈ ks) : ∀ y ∈ enq q k, y ∈ ks := by
  unfold enq
  split
  · exact hq
  · intro y hy
    rcases List.mem_append.mp hy with e | e
    · exact hq y e
    · rw [List.mem_singleton.mp e]; exact hk
theorem enq_len {q : List Str} {k : Str} : (enq q k).length ≤ q.length + 1 := by
  unfold enq
  split
  · omega
  · simp
theorem ne_nil_eq {α : Type} (q : List α) : (nb true (PyData.eqv (.list []) (.list []))) = false := by simp [PyData.eqv, PyData.eqvAll]
theorem eqv_nil (ps : List PyData) : PyData.eqv (.list ps) (.list []) = decide (ps = []) := by cases ps <;> simp [PyData.eqv, PyData.eqvAll]
/-- keys == [] -/
theorem eq_nil_strs {neg : Bool} {q : List Str} {k : O → Prop} (hq : ∀ y ∈ q, isKey y = true) (h : k (.sh (.sc (.bl (nb neg (decide (q = []))))))) : gEq neg (.bor (.ow .lst (q.map strD))) (.ow .lst []) k := by
  refine eq_dat (d := .nd .lst (q.map strD)) (e := .nd .lst []) rfl rfl (Dat.list (n := 0) (g := PyData.str) fun y hy => Dat.str (isKey_ok (hq y hy))) (Dat.nil (n := 0)) (by decide) (by decide) (fun s t e => by cases e) ?_
  rw [eqv_nil]
  have e : decide (q.map PyData.str = []) = decide (q = []) := by cases q <;> rfl
  rw [e]
  exact h
theorem notIn_q {x : Str} {q : List Str} {k : O → Prop} (hx : isKey x = true) (hq : ∀ y ∈ q, isKey y = true) (h : k (.sh (.sc (.bl (!decide (x ∈ q)))))) : gInW true (.sh (strD x)) (.bor (.ow .lst (q.map strD))) k :=
  in_strs rfl (fun ks os e => by cases e) (isKey_ok hx) (fun y hy => isKey_ok (hq y hy)) h
theorem szL {n : Nat} (h : n < 2 ^ 24) : n < sizeLine := Nat.lt_of_lt_of_le h (by decide +kernel)
abbrev envRun (ks : List Str) (m : O) (es : List (Option Str)) (q : List Str) (often : Int) (x6 x7 o : O) : VL.Env := [o, .sh (.nd .lst (ks.map strD)), m, .ow .lst (es.map evD), .ow .lst (q.map strD), .sh (.sc (.int often)), x6, x7]
theorem st_write {K : PySem.W.Frag} {mg : Str → Option Value} (G : Gx K mg) {ks : List Str} {m : O} {often it : Int} {k : VK} {ε : XP} {es : List (Option Str)} {q : List Str} {n : Nat} {o x7 : O} (hm : kill m = m) (hks : ks ≠ []) (hkl : ks.length ≤ 2 ^ 20) (hok : ∀ y ∈ ks, isKey y = true) (hs : Src n o) (hn : n < 2 ^ 90) (hl : es.length < 2 ^ 20) (hql : q.length < 2 ^ 20)
    (hqk : ∀ y ∈ q, y ∈ ks) (h : ∀ x ∈ ks, ∀ o', Src (n + 1) o' → k.nx (envRun ks m (es ++ [some x]) (enq q x) often (.sh (.sc (.int it))) (.sh (strD x)) o')) : s__law_run_2 G (envRun ks m es q often (.sh (.sc (.int it))) x7 o) k ε := by
  have hk0 := hs.kill
  have hlen : 0 < ks.length := List.length_pos_iff.mpr hks
  obtain ⟨ds, e⟩ := hs.own
  subst e
  simp [s__law_run_2, x_killAll, hm]
  refine draw_of G hs (by omega) (by omega) (by omega) fun r o' h0 h1 hs' => ?_
  have hk1 := hs'.kill
  simp [hk1]
  refine at_strs (by omega) h1 fun x hx => ?_
  have hh := h x hx o' hs'
  simp [gNew, isBor, mkTup, shL, hk1, hm]
  refine ⟨by decide +kernel, szL (by omega), ?_⟩
  simp [s__law_run_0]
  refine notIn_q (hok x hx) (fun y hy => hok y (hqk y hy)) ?_
  simp
  unfold enq at hh
  simp only [envRun, List.map_append] at hh
  by_cases hxq : x ∈ q
  · rw [if_pos hxq] at hh ⊢
    exact hh
  · rw [if_neg hxq] at hh ⊢
    rw [List.map_append] at hh
    simp [hk1, hm]
    exact ⟨szL (by omega), hh⟩
theorem st_send {K : PySem.W.Frag} {mg : Str → Option Value} (G : Gx K mg) {ks : List Str} {m : O} {often it : Int} {k : VK} {ε : XP} {es : List (Option Str)} {x : Str} {q : List Str} {n : Nat} {o x7 : O} (hm : kill m = m) (hs : Src n o) (hl : es.length < 2 ^ 20)
    (h : k.nx (envRun ks m (es ++ [none]) q often (.sh (.sc (.int it))) (kill x7) o)) : s__law_run_1 G (envRun ks m es (x :: q) often (.sh (.sc (.int it))) x7 o) k ε := by
  have hk0 := hs.kill
  simp [s__law_run_1, hm, hk0]
  refine pop0_of ?_
  simp [gNew, isBor, mkTup, shL, hk0, hm]
  simp only [envRun, List.map_append] at h
  have e : kill (kill x7) = kill x7 := by cases x7 <;> rfl
  rw [e]
  exact ⟨by decide +kernel, szL (by omega), h⟩
theorem loop_run {K : PySem.W.Frag} {mg : Str → Option Value} (G : Gx K mg) {ks : List Str} {m : O} {often : Int} {k : VK} {ε : XP} (hm : kill m = m) (hks : ks ≠ []) (hkl : ks.length ≤ 2 ^ 20) (hok : ∀ y ∈ ks, isKey y = true) (hoft : 0 < often ∧ often < 2 ^ 100) : ∀ (is : List Nat) (es : List (Option Str)) (q : List Str) (n : Nat) (o x6 x7 : O), Src n o → n + 2 * is.length < 2 ^ 90 → es.length + is.length ≤ 2 ^ 20 → q.length ≤ es.length → (∀ y ∈ q, y ∈ ks) → (∀ y, some y ∈ es → y ∈ ks) → (∀ more, runOk q more → runOk [] (es ++ more)) →
    (∀ (zs : List (Option Str)) o' w x6 x7, zs.length = es.length + is.length → (∀ y, some y ∈ zs → y ∈ ks) → runOk [] zs → Src (n + 2 * is.length) o' → k.nx [o', .sh (.nd .lst (ks.map strD)), m, .ow .lst (zs.map evD), w, .sh (.sc (.int often)), x6, x7]) →
    vForL (vgName 6) (s__law_run_3 G) (is.map fun i : Nat => D.sc (.int i)) (envRun ks m es q often x6 x7 o) k ε
  | [], es, q, n, o, x6, x7, hs, hn, hl, hq, hqk, hek, hr, h => h es o _ x6 x7 (by simp) hek (by have := hr [] trivial; rwa [List.append_nil] at this) hs
  | i :: is, es, q, n, o, x6, x7, hs, hn, hl, hq, hqk, hek, hr, h => by
    have hk0 := hs.kill
    have hlen : 0 < ks.length := List.length_pos_iff.mpr hks
    rw [List.length_cons] at hn hl
    -- a write
    have wr : ∀ (n' : Nat) (o x7 : O), n' ≤ n + 1 → Src n' o → s__law_run_2 G (envRun ks m es q often (.sh (.sc (.int i))) x7 o) { nx := fun ρ2 => vForL (vgName 6) (s__law_run_3 G) (is.map fun i : Nat => D.sc (.int i)) ρ2 k ε, ct := fun ρ2 => vForL (vgName 6) (s__law_run_3 G) (is.map fun i : Nat => D.sc (.int i)) ρ2 k ε, rt := k.rt, bk := k.nx } ε := by
      intro n' o x7 hn' hs'
      refine st_write G hm hks hkl hok hs' (by omega) (by omega) (by omega) hqk fun x hx o2 hs2 => ?_
      refine loop_run G hm hks hkl hok hoft is (es ++ [some x]) (enq q x) (n' + 1) o2 _ _ hs2 (by omega) (by simp; omega) (by have := enq_len (q := q) (k := x); simp; omega) (enq_mem hqk hx) (fun y hy => ?_) (fun more hm => ?_) fun zs o' w x6 x7 h1 h2 h3 h4 => h zs o' w x6 x7 (by rw [h1]; simp; omega) h2 h3 (h4.le (by rw [List.length_cons]; omega))
      · rcases List.mem_append.mp hy with e | e
        · exact hek y e
        · have := List.mem_singleton.mp e
          cases this
          exact hx
      · rw [List.append_assoc]
        exact hr _ hm
    cases q with
    | nil =>
      obtain ⟨ds, e⟩ := hs.own
      subst e
      simp [vForL, s__law_run_3, x_killAll, hm]
      refine eq_nil_strs (q := []) (fun y hy => by cases hy) ?_
      simp
      exact wr n _ x7 (by omega) hs
    | cons x q =>
      obtain ⟨ds, e⟩ := hs.own
      subst e
      simp [vForL, s__law_run_3, x_killAll, hm]
      refine eq_nil_strs (q := x :: q) (fun y hy => hok y (hqk y hy)) ?_
      simp
      refine draw_of G hs (by omega) hoft.1 (by omega) fun r o' h0 h1 hs' => ?_
      have hk1 := hs'.kill
      simp [hk1, hm]
      by_cases hr0 : r = 0
      · rw [if_pos hr0]
        refine st_send G (q := q) hm hs' (by omega) ?_
        refine loop_run G hm hks hkl hok hoft is (es ++ [none]) q (n + 1) o' _ _ hs' (by omega) (by simp; omega) (by simp at hq ⊢; omega) (fun y hy => hqk y (List.mem_cons_of_mem _ hy)) (fun y hy => ?_) (fun more hm => ?_) fun zs o' w x6 x7 h1 h2 h3 h4 => h zs o' w x6 x7 (by rw [h1]; simp; omega) h2 h3 (h4.le (by rw [List.length_cons]; omega))
        · rcases List.mem_append.mp hy with e | e
          · exact hek y e
          · have := List.mem_singleton.mp e
            cases this
        · rw [List.append_assoc]
          exact hr _ ⟨by simp, hm⟩
      · rw [if_neg hr0]
        exact wr (n + 1) o' _ (by omega) hs'
theorem p__law_run {K : PySem.W.Frag} {mg : Str → Option Value} (G : Gx K mg) : PureV 3 8 [0] (r__law_run G) (sp__law_run G) := by
  intro os φ ε h _
  obtain ⟨n, o, ks, l, rfl, hs, hn, hks, hkl, hok, hl0, hl1, hk⟩ := h
  have hk0 := hs.kill
  obtain ⟨ds, e⟩ := hs.own
  subst e
  simp [r__law_run, outsOf, x_killAll]
  refine draw_of G hs (by omega) (by decide) (by decide) fun r o' h0 h1 hs' => ?_
  have hk1 := hs'.kill
  simp [hk1]
  refine ⟨by omega, ?_⟩
  rw [intsD_map]
  refine loop_run G rfl hks hkl hok ⟨by omega, by omega⟩ (List.range l.toNat) [] [] (n + 1) o' .top .top hs' (by rw [List.length_range]; omega) (by rw [List.length_range, List.length_nil]; omega) (by simp) (fun y hy => by cases hy) (fun y hy => by cases hy) (fun more hm => hm) fun zs o2 w x6 x7 h1 h2 h3 h4 => ?_
  rw [List.length_range] at h1 h4
  simp
  exact hk zs o2 (by simpa using h1) h2 h3 h4
end VL.L59

namespace VL.L59
open PySem PySem.Spec L2
theorem isTy_str {d : D} {t : String} (e : tyName d = some t) (hn : ∀ x, d ≠ .sc (.str x)) : isTy t "str" = false := by
  unfold tyName at e
  split at e <;> first | (cases e; decide) | cases e
  exact absurd rfl (hn _)
def sgn (c : Nat) : D := .sc (.str ⟨#[c]⟩)
theorem charsD_eq (x : Str) : charsD x = x.cps.toList.map sgn := rfl
/-- [c in Z for c in x] -/
theorem loop_all {i : Nat} {a : O} {Z : Str} {φ : List D → VL.Env → Prop} {ε : XP} (ha : kill a = a) : ∀ (l : List Nat) (acc : List D) (x : O), acc.length + l.length ≤ sizeLine → (∀ x', φ (acc ++ l.map fun c => D.sc (.bl (decide (c ∈ Z.cps.toList)))) [a, x']) →
    vLcL (vgName 1) vYes (vBin true (gn2 (gInW false)) (vName 1) (vC (.str Z))) [1] (l.map sgn) acc [a, x] φ ε
  | [], acc, x, hl, h => by
    have := h x
    simpa [vLcL] using this
  | c :: l, acc, x, hl, h => by
    rw [List.length_cons] at hl
    simp [vLcL, wipeE, sgn, ha]
    refine ⟨by omega, ?_⟩
    exact loop_all (i := i) ha l _ _ (by simp; omega) fun x' => by simpa using h x'
theorem p_is_key {K : PySem.W.Frag} {mg : Str → Option Value} (G : Gx K mg) : PureV 1 2 [] (r_is_key G) (sp_is_key G) := by
  intro os φ ε h _
  obtain ⟨d, rfl, ht, hz, hk⟩ := h
  by_cases hs : ∃ x, d = .sc (.str x)
  · obtain ⟨x, rfl⟩ := hs
    have hz' := hz x rfl
    simp [r_is_key, s_is_key_0, outsOf, tyName, isTy, knownTy, hz']
    have hk' : φ (.sh (.sc (.bl (isKey x)))) [] := hk
    obtain ⟨⟨l⟩⟩ := x
    have hlen : (⟨⟨l⟩⟩ : Str).length = l.length := rfl
    rw [hlen] at hz' ⊢
    cases l with
    | nil => simpa [isKey, hlen] using hk'
    | cons c l =>
      by_cases h2 : (12 : Int) < (c :: l).length
      · rw [if_pos (by simp; omega), if_pos h2]
        have e : isKey ⟨⟨c :: l⟩⟩ = false := by
          unfold isKey
          rw [hlen, decide_eq_false (by omega), Bool.false_and, Bool.false_and]
        rw [e] at hk'
        exact hk'
      · rw [if_pos (by simp; omega), if_neg h2]
        have e : isKey ⟨⟨c :: l⟩⟩ = (decide (c ∈ lets.cps.toList) && (c :: l).all fun c => decide (c ∈ chrs.cps.toList)) := by
          unfold isKey
          rw [hlen, decide_eq_true (by simp at h2 ⊢; omega), Bool.true_and]
          simp
        rw [e] at hk'
        simp only [atI, ixN, List.length_cons]
        rw [if_pos (by omega), if_pos (by omega)]
        simp only [Option.bind_some, Int.toNat_zero, List.getElem?_cons_zero, x_onSome]
        by_cases h3 : c ∈ (Str.ofString "abcdefghijklmnopqrstuvwxyz").cps
        · rw [if_pos h3]
          rw [decide_eq_true (show c ∈ lets.cps.toList from Array.mem_toList_iff.mpr h3), Bool.true_and] at hk'
          refine loop_all (i := 0) rfl (c :: l) [] .top (by simpa using hz') fun x' => gBls_map ?_
          simp only [List.all_map]
          exact hk'
        · rw [if_neg h3]
          rw [decide_eq_false (show ¬ c ∈ lets.cps.toList from fun z => h3 (Array.mem_toList_iff.mp z)), Bool.false_and] at hk'
          exact hk'
  · have hn : ∀ x, d ≠ .sc (.str x) := fun x e => hs ⟨x, e⟩
    obtain ⟨t, et⟩ := Option.isSome_iff_exists.mp ht
    have en := isTy_str et hn
    have e : isKeyD d = false := by
      unfold isKeyD
      split
      · exact absurd rfl (hn _)
      · rfl
    rw [e] at hk
    simp [r_is_key, s_is_key_0, outsOf, et, en, knownTy]
    exact hk
end VL.L59

namespace VL.L59
open PySem PySem.Spec L2
theorem sgns_py (l : List Nat) : toPyL (l.map sgn) = some (l.map fun c => PyData.str ⟨#[c]⟩) := toPyL_map (fun _ => rfl) l
/-- [..] == [], signs -/
theorem eq_nil_sgn {neg : Bool} {q : List Nat} {k : O → Prop} (hq : ∀ y ∈ q, y < 0x110000) (h : k (.sh (.sc (.bl (nb neg (decide (q = []))))))) : gEq neg (.ow .lst (q.map sgn)) (.ow .lst []) k := by
  refine eq_dat (d := .nd .lst (q.map sgn)) (e := .nd .lst []) rfl rfl (Dat.list (n := 0) (g := fun c => PyData.str ⟨#[c]⟩) fun y hy => ⟨rfl, Fit.str ?_⟩) (Dat.nil (n := 0)) (by decide) (by decide) (fun s t e => by cases e) ?_
  · simpa [PyData.strOk] using hq y hy
  · rw [eqv_nil]
    have e : decide (q.map (fun c => PyData.str ⟨#[c]⟩) = []) = decide (q = []) := by cases q <;> rfl
    rw [e]
    exact h
theorem loop_none1 {a : O} {Z : Str} {φ : List D → VL.Env → Prop} {ε : XP} (ha : kill a = a) : ∀ (l : List Nat) (acc : List D) (x : O), acc.length + l.length ≤ sizeLine → (∀ x', φ (acc ++ (l.filter fun c => !decide (c ∈ Z.cps.toList)).map sgn) [a, x']) →
    vLcL (vgName 1) (vTst (vBin true (gn2 (gInW true)) (vName 1) (vC (.str Z)))) (vName 1) [1] (l.map sgn) acc [a, x] φ ε
  | [], acc, x, hl, h => by
    have := h x
    simpa [vLcL] using this
  | c :: l, acc, x, hl, h => by
    rw [List.length_cons] at hl
    simp only [List.map_cons, vLcL]
    rw [List.filter_cons] at h
    simp [wipeE, sgn, ha]
    by_cases hc : c ∈ Z.cps
    · rw [if_pos hc]
      refine loop_none1 ha l acc _ (by omega) fun x' => ?_
      have := h x'
      rw [if_neg (by simp [hc])] at this
      exact this
    · rw [if_neg hc]
      refine ⟨by omega, loop_none1 ha l _ _ (by simp; omega) fun x' => ?_⟩
      have := h x'
      rw [if_pos (by simp [hc])] at this
      simpa [sgn] using this
theorem loop_none2 {a : O} {Z Y : Str} {φ : List D → VL.Env → Prop} {ε : XP} (ha : kill a = a) (hY : Z.length + Y.length ≤ sizeLine) : ∀ (l : List Nat) (acc : List D) (x : O), acc.length + l.length ≤ sizeLine → (∀ x', φ (acc ++ (l.filter fun c => !decide (c ∈ (Z ++ Y).cps.toList)).map sgn) [a, .sh (.sc (.str Z)), x']) →
    vLcL (vgName 2) (vTst (vBin true (gn2 (gInW true)) (vName 2) (vBin true (gn2 gAdd) (vName 1) (vC (.str Y))))) (vName 2) [2] (l.map sgn) acc [a, .sh (.sc (.str Z)), x] φ ε
  | [], acc, x, hl, h => by
    have := h x
    simpa [vLcL] using this
  | c :: l, acc, x, hl, h => by
    rw [List.length_cons] at hl
    simp only [List.map_cons, vLcL]
    rw [List.filter_cons] at h
    generalize hW : Z ++ Y = W at h
    simp [wipeE, sgn, ha, hW]
    refine ⟨hY, ?_⟩
    by_cases hc : c ∈ W.cps
    · rw [if_pos hc]
      refine loop_none2 ha hY l acc _ (by omega) fun x' => ?_
      have := h x'
      rw [if_neg (by simp [hc])] at this
      rw [hW]
      exact this
    · rw [if_neg hc]
      refine ⟨by omega, loop_none2 ha hY l _ _ (by simp; omega) fun x' => ?_⟩
      have := h x'
      rw [if_pos (by simp [hc])] at this
      rw [hW]
      simpa [sgn] using this
/-- none is out -/
theorem filter_nil {l : List Nat} {p : Nat → Bool} : decide ((l.filter fun c => !p c) = []) = l.all p := by
  cases h : l.all p with
  | true =>
    refine decide_eq_true (List.filter_eq_nil_iff.mpr fun c hc => ?_)
    rw [List.all_eq_true.mp h c hc]
    simp
  | false =>
    refine decide_eq_false fun z => ?_
    have := List.filter_eq_nil_iff.mp z
    rw [List.all_eq_false] at h
    obtain ⟨c, hc, hp⟩ := h
    exact this c hc (by simpa using hp)
theorem one_eq {c : Nat} : (⟨#[c]⟩ : Str) = Str.ofString "0" ↔ c = 48 := by
  constructor
  · intro z
    have e : (⟨#[c]⟩ : Str) = ⟨#[48]⟩ := z
    cases e
    rfl
  · rintro rfl; rfl
theorem isCount_cons (c : Nat) (l : List Nat) : isCount ⟨⟨c :: l⟩⟩ = (decide (c ≠ 48) && (c :: l).all fun c => decide (c ∈ digs.cps.toList)) := rfl
theorem digs_range {l : List Nat} (h : (l.all fun c => decide (c ∈ digs.cps.toList)) = true) : NumText.AllDigits l := by
  intro c hc
  have h1 := of_decide_eq_true (List.all_eq_true.mp h c hc)
  have h2 : digs.cps.toList.all (fun c => decide (48 ≤ c ∧ c ≤ 57)) = true := by decide +kernel
  exact of_decide_eq_true (List.all_eq_true.mp h2 c h1)
/-- a count is read as a number -/
theorem count_some {x : Str} (h : isCount x = true) (hl : x.length ≤ 4300) : ∃ n : Nat, PySem.intText? x = some (n : Int) := by
  obtain ⟨⟨l⟩⟩ := x
  cases l with
  | nil => cases h
  | cons c l =>
    rw [isCount_cons, Bool.and_eq_true] at h
    exact ⟨_, PySem.intText_digits (x := ⟨⟨c :: l⟩⟩) (digs_range h.2) (by simp) hl⟩
theorem p_count_in {K : PySem.W.Frag} {mg : Str → Option Value} (G : Gx K mg) : PureV 1 2 [] (r_count_in G) (sp_count_in G) := by
  intro os φ ε h _
  obtain ⟨x, rfl, hz, hn, hk⟩ := h
  have hsome : isCount x = true → ∃ n : Nat, PySem.intText? x = some (n : Int) := fun h => count_some h (Nat.le_trans (hn h) (by decide))
  obtain ⟨⟨l⟩⟩ := x
  have hlen : (⟨⟨l⟩⟩ : Str).length = l.length := rfl
  simp [r_count_in, s_count_in_0, outsOf, strD, hz]
  unfold countIn at hk
  cases l with
  | nil =>
    rw [if_pos (show (⟨⟨[]⟩⟩ : Str) = Str.ofString "" from rfl)]
    exact hk
  | cons c l =>
    rw [if_neg (show ¬ (⟨⟨c :: l⟩⟩ : Str) = Str.ofString "" from fun z => by cases z)]
    rw [isCount_cons] at hk hn hsome
    simp only [atI, ixN, List.length_cons]
    rw [if_pos (by omega), if_pos (by omega)]
    simp only [Option.bind_some, Int.toNat_zero, List.getElem?_cons_zero, x_onSome]
    by_cases h3 : c = 48
    · rw [if_pos (one_eq.mpr h3)]
      rw [decide_eq_false (by simpa using h3), Bool.false_and] at hk
      exact hk
    · rw [if_neg (fun z => h3 (one_eq.mp z))]
      rw [decide_eq_true h3, Bool.true_and] at hk hn hsome
      refine loop_all (i := 0) rfl (c :: l) [] .top (by rw [hlen] at hz; simpa using hz) fun x' => gBls_map ?_
      simp only [List.all_map]
      have e : (List.all (c :: l) (id ∘ fun c => decide (c ∈ (Str.ofString "0123456789").cps.toList))) = (c :: l).all fun c => decide (c ∈ digs.cps.toList) := rfl
      rw [e]
      cases h4 : (c :: l).all fun c => decide (c ∈ digs.cps.toList) with
      | false =>
        rw [h4] at hk
        simp
        exact hk
      | true =>
        rw [h4] at hk
        obtain ⟨n, hn2⟩ := hsome h4
        rw [if_pos rfl, hn2] at hk
        simp [wipeE, hn2]
        exact ⟨hn h4, hk⟩
theorem p_words_of {K : PySem.W.Frag} {mg : Str → Option Value} (G : Gx K mg) : PureV 1 1 [] (r_words_of G) (sp_words_of G) := by
  intro os φ ε h _
  rcases h with ⟨x, rfl, hz, hk⟩ | ⟨d, rfl, ht, hn, hk⟩
  · unfold wordsOf at hk
    simp [r_words_of, s_words_of_0, outsOf, tyName, isTy, knownTy]
    by_cases he : x = Str.ofString ""
    · rw [if_pos he] at hk ⊢
      exact hk
    · rw [if_neg he] at hk ⊢
      exact ⟨⟨by decide +kernel, hz⟩, hk⟩
  · obtain ⟨t, et⟩ := Option.isSome_iff_exists.mp ht
    have en := isTy_str et hn
    simp [r_words_of, s_words_of_0, outsOf, et, en, knownTy]
    exact hk
end VL.L59

namespace VL.L59
open PySem PySem.Spec L2 SX
/-! ### texts -/
def Inf (p x : Str) : Prop := ∃ a c, x.cps.toList = a ++ p.cps.toList ++ c
theorem Dr.inf {n : Nat} {p x : Str} (h : Dr n x) (hi : Inf p x) : Dr n p := by
  obtain ⟨a, c, e⟩ := hi
  refine ⟨fun d hd => h.1 d (by rw [e]; simp [hd]), fun u b v e2 hb => h.2 (a ++ u) b (v ++ c) (by rw [e, e2]; simp) hb⟩
theorem Inf.refl (x : Str) : Inf x x := ⟨[], [], by simp⟩
theorem Inf.trans {x y z : Str} (h : Inf x y) (h2 : Inf y z) : Inf x z := by
  obtain ⟨a, c, e⟩ := h
  obtain ⟨a2, c2, e2⟩ := h2
  exact ⟨a2 ++ a, c ++ c2, by rw [e2, e]; simp⟩
theorem Inf.len {x y : Str} (h : Inf x y) : x.length ≤ y.length := by
  obtain ⟨a, c, e⟩ := h
  rw [TL.len_tl, TL.len_tl]
  show x.cps.toList.length ≤ y.cps.toList.length
  rw [e]
  simp
  omega
theorem join_inf (y : Str) : ∀ (ps : List Str) (p : Str), p ∈ ps → Inf p (Str.join y ps)
  | [], _, h => by cases h
  | [x], p, h => by
    rw [List.mem_singleton.mp h]
    exact .refl _
  | x :: z :: r, p, h => by
    have e : (Str.join y (x :: z :: r)) = x ++ y ++ Str.join y (z :: r) := rfl
    rw [e]
    rcases List.mem_cons.mp h with e1 | h
    · subst e1
      refine ⟨[], y.cps.toList ++ (Str.join y (z :: r)).cps.toList, ?_⟩
      show TL.tl _ = _
      rw [TL.tl_append, TL.tl_append]
      simp
    · refine (join_inf y (z :: r) p h).trans ⟨x.cps.toList ++ y.cps.toList, [], ?_⟩
      show TL.tl _ = _
      rw [TL.tl_append, TL.tl_append]
      simp
theorem word_inf {x w : Str} (h : w ∈ wordsOf x) : Inf w x := by
  unfold wordsOf at h
  split at h
  · cases h
  · have := join_inf (Str.ofString " ") _ w h
    rw [StrLaws.join_split] at this
    exact this
theorem ofS_hash : Str.ofString "#" = S [35] := by decide +kernel
theorem count_hash {q : List Nat} (h : 35 ∈ q) : countIn (S q) = none := by
  unfold countIn
  have : isCount (S q) = false := by
    cases q with
    | nil => cases h
    | cons c l =>
      rw [show S (c :: l) = (⟨⟨c :: l⟩⟩ : Str) from rfl, isCount_cons]
      have e : ((c :: l).all fun c => decide (c ∈ digs.cps.toList)) = false := by
        rw [List.all_eq_false]
        exact ⟨35, h, by decide +kernel⟩
      rw [e, Bool.and_false]
  rw [this]
  rfl
theorem split_at (c : Nat) : ∀ l : List Nat, c ∈ l → ∃ p q, l = p ++ ([c] ++ q) ∧ c ∉ p
  | [], h => by cases h
  | d :: l, h => by
    by_cases e : d = c
    · subst e
      exact ⟨[], l, rfl, by simp⟩
    · obtain ⟨p, q, e2, h2⟩ := split_at c l (by
        rcases List.mem_cons.mp h with z | z
        · exact absurd z.symm e
        · exact z)
      refine ⟨d :: p, q, by rw [e2]; rfl, fun z => ?_⟩
      rcases List.mem_cons.mp z with z | z
      · exact e z.symm
      · exact h2 z
theorem cword_part (w : Str) : cword w = (if isKey (Txt.partition w (Str.ofString "#")).1 = true then match countIn (Txt.partition w (Str.ofString "#")).2.2 with
    | some c => some ((Txt.partition w (Str.ofString "#")).1, c)
    | none => none
    else none) ∧ Inf (Txt.partition w (Str.ofString "#")).2.2 w := by
  obtain ⟨l, rfl⟩ : ∃ l, w = S l := ⟨w.cps.toList, (S_tl w).symm⟩
  unfold cword
  rw [ofS_hash, split_S (by simp) (by decide)]
  by_cases h : 35 ∈ l
  · obtain ⟨p, q, e, hp⟩ := split_at 35 l h
    subst e
    rw [partition_some (by simp) (par_head (sep := []) q hp)]
    rw [TL.spl_part1 (S := []) hp, List.nil_append]
    refine ⟨?_, ⟨p ++ [35], [], by simp⟩⟩
    by_cases hq : 35 ∈ q
    · obtain ⟨p2, q2, e, hp2⟩ := split_at 35 q hq
      rw [count_hash hq]
      subst e
      rw [TL.spl_part1 (S := []) hp2]
      have : ∃ a as, TL.spl [35] 0 [] q2 = a :: as := by
        cases h3 : TL.spl [35] 0 [] q2 with
        | nil =>
          exfalso
          by_cases h4 : 35 ∈ q2
          · obtain ⟨p3, q3, e3, hp3⟩ := split_at 35 q2 h4
            rw [e3, TL.spl_part1 (S := []) hp3] at h3
            cases h3
          · rw [TL.spl_last1 h4] at h3
            cases h3
        | cons a as => exact ⟨a, as, rfl⟩
      obtain ⟨a, as, ea⟩ := this
      rw [ea]
      show none = _
      split <;> rfl
    · rw [TL.spl_last1 hq]
      rfl
  · rw [SX.partition_none (by simp) (par_head_none h), TL.spl_last1 h]
    refine ⟨?_, ⟨l, [], by simp⟩⟩
    show none = _
    split <;> rfl
end VL.L59

namespace VL.L59
open PySem PySem.Spec L2 SX
theorem spl_len : ∀ (l acc : List Nat), (TL.spl [32] 0 acc l).length ≤ l.length + 1
  | [], acc => by rw [TL.spl_nil]; simp
  | c :: l, acc => by
    by_cases h : TL.pre [32] (c :: l) = true
    · rw [TL.spl_hit h]
      have := spl_len l []
      show ((TL.spl [32] 0 [] l).length + 1) ≤ _
      rw [List.length_cons]
      omega
    · rw [TL.spl_miss (by simpa using h)]
      have := spl_len l (acc ++ [c])
      rw [List.length_cons]
      omega
theorem ofS_sp : Str.ofString " " = S [32] := by decide +kernel
theorem words_le {x : Str} : (wordsOf x).length ≤ x.length + 1 := by
  unfold wordsOf
  split
  · simp
  · obtain ⟨l, rfl⟩ : ∃ l, x = S l := ⟨x.cps.toList, (S_tl x).symm⟩
    rw [ofS_sp, split_S (by simp) (by decide), List.length_map]
    exact spl_len l []
theorem words_len {x : Str} (h : x.length + 2 ≤ sizeLine) : (wordsOf x).length ≤ sizeLine := Nat.le_trans words_le (by omega)
theorem enq_key {q : List Str} {k : Str} (hq : ∀ y ∈ q, isKey y = true) (hk : isKey k = true) : ∀ y ∈ enq q k, isKey y = true := by
  unfold enq
  split
  · exact hq
  · intro y hy
    rcases List.mem_append.mp hy with e | e
    · exact hq y e
    · rw [List.mem_singleton.mp e]; exact hk
section
variable {K : PySem.W.Frag} {mg : Str → Option Value} (G : Gx K mg)
theorem is_key_of {x : Str} {φ : O → List O → Prop} {ε : Exc → List O → Prop} (hz : x.length ≤ sizeLine) (h : φ (.sh (.sc (.bl (isKey x)))) []) : sp_is_key G [.sh (strD x)] φ ε := ⟨.sc (.str x), rfl, rfl, fun y e => by cases e; exact hz, h⟩
theorem loop_parse_log {t : O} {q : Addr} {W : List Str} {k : VK} {ε : XP} (ht : kill t = t) : ∀ (ws : List Str) (i : Nat) (a b : O), (∀ w ∈ ws, w.length ≤ sizeLine) → (match firstBad i ws with
    | none => ∀ a b, k.nx [t, .nm q (.ow .lst (W.map strD)), a, b]
    | some j => ∀ a b, ε (bad G (.sc (.int (j : Nat)))) [t, .nm q (.ow .lst (W.map strD)), a, b]) →
    vForC (stP q [1] ((W.map strD).map .sh)) (vgTup 2 (vgCons (vgName 2) (vgCons (vgName 3) vgNil))) (s_parse_log_0 G) (enumS i ((ws.map strD).map .sh)) [t, .nm q (.ow .lst (W.map strD)), a, b] k ε
  | [], i, a, b, hz, h => by
    simp [enumS, vForC, stP, getP, getO, statOf]
    exact h a b
  | w :: ws, i, a, b, hz, h => by
    simp [enumS, numO, vForC, s_parse_log_0, x_killAll, stP, getP, getO, statOf]
    refine is_key_of G (hz w List.mem_cons_self) ?_
    simp
    rw [firstBad] at h
    by_cases e : isKey w = true
    · rw [if_pos e] at h ⊢
      have := loop_parse_log ht ws (i + 1) (.sh (.sc (.int (i : Nat)))) (.sh (strD w)) (fun u hu => hz u (List.mem_cons_of_mem _ hu)) h
      simpa [s_parse_log_0] using this
    · rw [if_neg e] at h ⊢
      exact h _ _
theorem p_parse_log : PureV 1 4 [] (r_parse_log G) (sp_parse_log G) := by
  intro os φ ε h _
  rcases h with ⟨x, rfl, hz, hdr, hk⟩ | ⟨d, rfl, ht, hn, hk⟩
  · simp [r_parse_log, outsOf, x_killAll]
    refine .inl ⟨x, rfl, hz, ?_⟩
    simp [getP, getO, statOf]
    intro q
    have := loop_parse_log G (t := .sh (strD x)) (q := q) (W := wordsOf x) (k := { nx := fun ρ1 => mvO (envAt ρ1 1) fun o => φ (unN o) [], rt := fun o _ => φ o [] }) (ε := fun e _ => ε e []) rfl (wordsOf x) 0 .top .top (fun w hw => Nat.le_trans (word_inf hw).len (by omega)) ?_
    · simpa using this
    unfold readAs at hk
    cases h : firstBad 0 (wordsOf x) with
    | none =>
      rw [h] at hk
      intro a b
      simpa [mvO] using hk
    | some j =>
      rw [h] at hk
      intro a b
      exact hk
  · simp [r_parse_log, outsOf, x_killAll]
    exact .inr ⟨d, rfl, ht, hn, hk⟩
theorem count_in_of {x : Str} {φ : O → List O → Prop} {ε : Exc → List O → Prop} (hz : x.length ≤ sizeLine) (hc : isCount x = true → x.length ≤ 640) (h : φ (.sh (optI (countIn x))) []) : sp_count_in G [.sh (.sc (.str x))] φ ε := ⟨x, rfl, hz, hc, h⟩
theorem Dr.count {x : Str} (h : Dr 640 x) (hc : isCount x = true) : x.length ≤ 640 := by
  obtain ⟨⟨l⟩⟩ := x
  cases l with
  | nil => cases hc
  | cons c l =>
    rw [isCount_cons, Bool.and_eq_true] at hc
    exact h.2 [] (c :: l) [] (by simp) (digs_range hc.2)
theorem part_inf1 (w : Str) : Inf (Txt.partition w (Str.ofString "#")).1 w := by
  obtain ⟨l, rfl⟩ : ∃ l, w = S l := ⟨w.cps.toList, (S_tl w).symm⟩
  rw [ofS_hash]
  by_cases h : 35 ∈ l
  · obtain ⟨p, q, e, hp⟩ := split_at 35 l h
    subst e
    rw [partition_some (by simp) (par_head (sep := []) q hp)]
    exact ⟨[], [35] ++ q, by simp⟩
  · rw [SX.partition_none (by simp) (par_head_none h)]
    exact .refl _
theorem st_cnt {t : O} {k : VK} {ε : XP} (ht : kill t = t) {w : Str} {i : Nat} {m f : List (Str × Int)} {x5 x6 x7 x8 : O} (hw1 : w.length ≤ sizeLine) (hw2 : Dr 640 w) (hf : f.length < sizeLine) (hm : m.length ≤ f.length) (h : match cword w with
    | some (ky, c) => if c ≤ (lk m ky).getD 0 then ∀ ρ, ε (bad G (.sc (.int (i : Nat)))) ρ else ∀ x5 x6 x7 x8, k.nx [t, .ow .lst ((f ++ [(ky, c)]).map cntD), dO eI (pt m ky c), .sh (.sc (.int (i : Nat))), .sh (strD w), x5, x6, x7, x8]
    | none => ∀ ρ, ε (bad G (.sc (.int (i : Nat)))) ρ) :
    s_parse_counted_1 G [t, .ow .lst (f.map cntD), dO eI m, .sh (.sc (.int (i : Nat))), .sh (strD w), x5, x6, x7, x8] k ε := by
  obtain ⟨hc, hi⟩ := cword_part w
  have hi1 := part_inf1 w
  simp [s_parse_counted_1, x_killAll, dO, strD]
  refine ⟨⟨by decide +kernel, hw1⟩, ?_⟩
  generalize hp : Txt.partition w (Str.ofString "#") = p at hc hi hi1
  obtain ⟨p1, p2, p3⟩ := p
  refine count_in_of G (Nat.le_trans hi.len hw1) (hw2.inf hi).count ?_
  simp [s_parse_counted_0, x_killAll]
  refine is_key_of G (Nat.le_trans hi1.len hw1) ?_
  simp
  rw [hc] at h
  by_cases hk : isKey p1 = true
  · rw [if_pos hk] at h ⊢
    cases hcc : countIn p3 with
    | none =>
      rw [hcc] at h
      simp [optI]
      exact h _
    | some c =>
      rw [hcc] at h
      simp [optI]
      have h' : if c ≤ (lk m p1).getD 0 then ∀ ρ, ε (bad G (.sc (.int (i : Nat)))) ρ else ∀ x5 x6 x7 x8, k.nx [t, .ow .lst ((f ++ [(p1, c)]).map cntD), dO eI (pt m p1 c), .sh (.sc (.int (i : Nat))), .sh (strD w), x5, x6, x7, x8] := h
      by_cases hle : c ≤ (lk m p1).getD 0
      · rw [if_pos hle] at h' ⊢
        exact h' _
      · rw [if_neg hle] at h' ⊢
        simp [gNew, isBor, mkTup, shL, ht]
        refine ⟨by decide +kernel, hf, by omega, ?_⟩
        have := h' (.sh (strD p1)) (.sh (strD p2)) (.sh (strD p3)) (.sh (.sc (.int c)))
        rw [List.map_append] at this
        exact this
  · rw [if_neg hk] at h ⊢
    exact h _
theorem loop_cnt {t : O} {k : VK} {ε : XP} (ht : kill t = t) : ∀ (ws : List Str) (i : Nat) (m f : List (Str × Int)) (x3 x4 x5 x6 x7 x8 : O), (∀ w ∈ ws, w.length ≤ sizeLine ∧ Dr 640 w) → f.length + ws.length ≤ sizeLine → m.length ≤ f.length → (match cntRun i m f ws with
    | .ok f' => ∀ w x3 x4 x5 x6 x7 x8, k.nx [t, .ow .lst (f'.map cntD), w, x3, x4, x5, x6, x7, x8]
    | .error j => ∀ ρ, ε (bad G (.sc (.int (j : Nat)))) ρ) →
    vForL (vgTup 2 (vgCons (vgName 3) (vgCons (vgName 4) vgNil))) (s_parse_counted_1 G) (numbered i (ws.map strD)) [t, .ow .lst (f.map cntD), dO eI m, x3, x4, x5, x6, x7, x8] k ε
  | [], i, m, f, x3, x4, x5, x6, x7, x8, hz, hf, hm, h => h _ _ _ _ _ _ _
  | w :: ws, i, m, f, x3, x4, x5, x6, x7, x8, hz, hf, hm, h => by
    obtain ⟨hw1, hw2⟩ := hz w List.mem_cons_self
    rw [List.length_cons] at hf
    rw [cntRun] at h
    simp [numbered, vForL]
    refine st_cnt G ht hw1 hw2 (by omega) hm ?_
    cases hc : cword w with
    | none =>
      rw [hc] at h
      exact h
    | some p =>
      obtain ⟨ky, c⟩ := p
      rw [hc] at h
      have h' : match (if c ≤ (lk m ky).getD 0 then Except.error i else cntRun (i + 1) (pt m ky c) (f ++ [(ky, c)]) ws : Except Nat (List (Str × Int))) with
        | .ok f' => ∀ w x3 x4 x5 x6 x7 x8, k.nx [t, .ow .lst (f'.map cntD), w, x3, x4, x5, x6, x7, x8]
        | .error j => ∀ ρ, ε (bad G (.sc (.int (j : Nat)))) ρ := h
      show if c ≤ (lk m ky).getD 0 then _ else _
      by_cases hle : c ≤ (lk m ky).getD 0
      · rw [if_pos hle] at h' ⊢
        exact h'
      · rw [if_neg hle] at h' ⊢
        intro x5 x6 x7 x8
        exact loop_cnt ht ws (i + 1) _ _ _ _ _ _ _ _ (fun u hu => hz u (List.mem_cons_of_mem _ hu)) (by simp; omega) (by have := pt_len m ky c; simp; omega) h'
theorem p_parse_counted : PureV 1 9 [] (r_parse_counted G) (sp_parse_counted G) := by
  intro os φ ε h _
  rcases h with ⟨x, rfl, hz, hdr, hk⟩ | ⟨d, rfl, ht, hn, hk⟩
  · simp [r_parse_counted, outsOf, x_killAll]
    refine .inl ⟨x, rfl, hz, ?_⟩
    simp
    have hlen : (wordsOf x).length ≤ sizeLine := words_len hz
    refine loop_cnt G rfl _ 0 [] [] _ _ _ _ _ _ (fun w hw => ⟨Nat.le_trans (word_inf hw).len (by omega), hdr.inf (word_inf hw)⟩) (by simpa using hlen) (by simp) ?_
    unfold readAs at hk
    cases h : cntRun 0 [] [] (wordsOf x) with
    | ok f =>
      rw [h] at hk
      intro w x3 x4 x5 x6 x7 x8
      simp
      exact hk
    | error j =>
      rw [h] at hk
      intro ρ
      exact hk
  · simp [r_parse_counted, outsOf, x_killAll]
    exact .inr ⟨d, rfl, ht, hn, hk⟩
theorem ofS_plus : Str.ofString "+" = S [43] := by decide +kernel
theorem ofS_mark : Str.ofString "!" = S [33] := by decide +kernel
theorem cut_to (l : List Nat) : cutS (S l) none (some 1) = S (l.take 1) := by
  rw [C8.cutS_slice]
  exact slice_to (by decide)
theorem cut_from (l : List Nat) : cutS (S l) (some 1) none = S (l.drop 1) := by
  rw [C8.cutS_slice]
  exact slice_from (by decide)
theorem rword_cut (w : Str) : rword w = if cutS w none (some 1) = Str.ofString "+" then (if isKey (cutS w (some 1) none) = true then some (cutS w (some 1) none) else none) else none := by
  obtain ⟨l, rfl⟩ : ∃ l, w = S l := ⟨w.cps.toList, (S_tl w).symm⟩
  rw [cut_to, cut_from, ofS_plus]
  cases l with
  | nil =>
    rw [if_neg (fun z => by have := S_inj z; cases this)]
    rfl
  | cons c l =>
    by_cases h : c = 43
    · subst h
      rw [if_pos (show S (List.take 1 (43 :: l)) = S [43] by simp)]
      rfl
    · rw [if_neg (fun z => h (by have := S_inj z; simpa using this))]
      unfold rword
      split
      · rename_i e
        have e' : c :: l = 43 :: _ := e
        cases e'
        exact absurd rfl h
      · rfl
theorem rword_mark : rword (Str.ofString "!") = none := by rw [ofS_mark]; rfl
theorem rword_inf {w x : Str} (h : rword w = some x) : x = cutS w (some 1) none ∧ isKey x = true := by
  rw [rword_cut] at h
  split at h
  · split at h
    · rename_i h2
      cases h
      exact ⟨rfl, h2⟩
    · cases h
  · cases h
abbrev envPr (t : O) (f : List (Option Str)) (q : List Str) (i : Nat) (w : Str) (x5 : O) : VL.Env := [t, .ow .lst (f.map evD), .ow .lst (q.map strD), .sh (.sc (.int (i : Nat))), .sh (strD w), x5]
theorem st_prun {t : O} {k : VK} {ε : XP} (ht : kill t = t) {w : Str} {i : Nat} {f : List (Option Str)} {q : List Str} {x5 : O} (hw1 : w.length ≤ sizeLine) (hf : f.length < sizeLine) (hq : q.length ≤ f.length) (hqk : ∀ y ∈ q, isKey y = true) (h : match rword w with
    | some x => ∀ x5, k.nx (envPr t (f ++ [some x]) (enq q x) i w x5)
    | none => if w = Str.ofString "!" ∧ q ≠ [] then ∀ x5, k.nx (envPr t (f ++ [none]) q.tail i w x5) else ∀ ρ, ε (bad G (.sc (.int (i : Nat)))) ρ) :
    s_parse_run_5 G (envPr t f q i w x5) k ε := by
  simp [s_parse_run_5, x_killAll, strD]
  refine ⟨hw1, ?_⟩
  generalize hx : cutS w (some 1) none = x
  have hxl : x.length ≤ sizeLine := by rw [← hx]; exact Nat.le_trans (cutS_length _ _ _) hw1
  -- the way behind the first test
  have rest : (∀ y, rword w = none → ε (bad G (.sc (.int (i : Nat)))) y) → s_parse_run_2 G (envPr t f q i w (.sh (.sc (.str x)))) k ε := by
    intro hbad
    have hr := rword_cut w
    rw [hx] at hr
    simp [s_parse_run_2, x_killAll, strD]
    refine ⟨hw1, ?_⟩
    by_cases hp : cutS w none (some 1) = Str.ofString "+"
    · rw [if_pos hp] at hr ⊢
      refine is_key_of G hxl ?_
      simp
      by_cases hk : isKey x = true
      · rw [if_pos hk] at hr ⊢
        rw [hr] at h
        have hh := h (.sh (strD x))
        simp only [envPr, List.map_append] at hh
        simp [s_parse_run_1, s_parse_run_0]
        refine notIn_q hk hqk ?_
        simp
        unfold enq at hh
        by_cases hxq : x ∈ q
        · rw [if_pos hxq] at hh ⊢
          simp [gNew, isBor, mkTup, shL, ht]
          exact ⟨by decide +kernel, hf, hh⟩
        · rw [if_neg hxq] at hh ⊢
          rw [List.map_append] at hh
          simp [gNew, isBor, mkTup, shL, ht]
          exact ⟨by omega, by decide +kernel, hf, hh⟩
      · rw [if_neg hk] at hr ⊢
        exact hbad _ hr
    · rw [if_neg hp] at hr ⊢
      exact hbad _ hr
  simp [s_parse_run_4, x_killAll, strD]
  by_cases hm : w = Str.ofString "!"
  · rw [if_pos hm]
    refine eq_nil_strs hqk ?_
    simp
    rw [hm, rword_mark] at h
    have h' : if Str.ofString "!" = Str.ofString "!" ∧ q ≠ [] then ∀ x5, k.nx (envPr t (f ++ [none]) q.tail i (Str.ofString "!") x5) else ∀ ρ, ε (bad G (.sc (.int (i : Nat)))) ρ := h
    cases q with
    | nil =>
      rw [if_pos rfl]
      refine rest fun y _ => ?_
      rw [if_neg (fun z => z.2 rfl)] at h'
      exact h' y
    | cons y q =>
      rw [if_neg (by simp)]
      rw [if_pos ⟨rfl, by simp⟩] at h'
      simp [s_parse_run_3]
      refine pop0_of ?_
      simp [gNew, isBor, mkTup, shL, ht]
      have hh := h' (.sh (.sc (.str x)))
      simp only [envPr, List.map_append] at hh
      rw [hm]
      exact ⟨by decide +kernel, hf, hh⟩
  · rw [if_neg hm]
    refine rest fun y hr => ?_
    rw [hr] at h
    have h' : if w = Str.ofString "!" ∧ q ≠ [] then ∀ x5, k.nx (envPr t (f ++ [none]) q.tail i w x5) else ∀ ρ, ε (bad G (.sc (.int (i : Nat)))) ρ := h
    rw [if_neg (fun z => hm z.1)] at h'
    exact h' y
theorem loop_prun {t : O} {k : VK} {ε : XP} (ht : kill t = t) : ∀ (ws : List Str) (i : Nat) (q : List Str) (f : List (Option Str)) (x3 x4 x5 : O), (∀ w ∈ ws, w.length ≤ sizeLine) → f.length + ws.length ≤ sizeLine → q.length ≤ f.length → (∀ y ∈ q, isKey y = true) → (match runRun i q f ws with
    | .ok f' => ∀ w x3 x4 x5, k.nx [t, .ow .lst (f'.map evD), w, x3, x4, x5]
    | .error j => ∀ ρ, ε (bad G (.sc (.int (j : Nat)))) ρ) →
    vForL (vgTup 2 (vgCons (vgName 3) (vgCons (vgName 4) vgNil))) (s_parse_run_5 G) (numbered i (ws.map strD)) [t, .ow .lst (f.map evD), .ow .lst (q.map strD), x3, x4, x5] k ε
  | [], i, q, f, x3, x4, x5, hz, hf, hq, hqk, h => h _ _ _ _
  | w :: ws, i, q, f, x3, x4, x5, hz, hf, hq, hqk, h => by
    have hw1 := hz w List.mem_cons_self
    rw [List.length_cons] at hf
    rw [runRun] at h
    simp [numbered, vForL]
    refine st_prun G ht hw1 (by omega) hq hqk ?_
    have hz' : ∀ u ∈ ws, u.length ≤ sizeLine := fun u hu => hz u (List.mem_cons_of_mem _ hu)
    cases hr : rword w with
    | some x =>
      rw [hr] at h
      intro x5
      refine loop_prun ht ws (i + 1) _ _ _ _ _ hz' (by simp; omega) (by have := enq_len (q := q) (k := x); simp; omega) (fun y hy => ?_) h
      refine enq_key hqk (rword_inf hr).2 y hy
    | none =>
      rw [hr] at h
      have h' : match (if w = Str.ofString "!" ∧ q ≠ [] then runRun (i + 1) q.tail (f ++ [none]) ws else .error i : Except Nat (List (Option Str))) with
        | .ok f' => ∀ w x3 x4 x5, k.nx [t, .ow .lst (f'.map evD), w, x3, x4, x5]
        | .error j => ∀ ρ, ε (bad G (.sc (.int (j : Nat)))) ρ := h
      show if w = Str.ofString "!" ∧ q ≠ [] then _ else _
      by_cases hm : w = Str.ofString "!" ∧ q ≠ []
      · rw [if_pos hm] at h' ⊢
        intro x5
        refine loop_prun ht ws (i + 1) _ _ _ _ _ hz' (by simp; omega) (by simp; omega) (fun y hy => hqk y (List.mem_of_mem_tail hy)) h'
      · rw [if_neg hm] at h' ⊢
        exact h'
theorem p_parse_run : PureV 1 6 [] (r_parse_run G) (sp_parse_run G) := by
  intro os φ ε h _
  rcases h with ⟨x, rfl, hz, hdr, hk⟩ | ⟨d, rfl, ht, hn, hk⟩
  · simp [r_parse_run, outsOf, x_killAll]
    refine .inl ⟨x, rfl, hz, ?_⟩
    simp
    have hlen : (wordsOf x).length ≤ sizeLine := words_len hz
    refine loop_prun G rfl _ 0 [] [] _ _ _ (fun w hw => Nat.le_trans (word_inf hw).len (by omega)) (by simpa using hlen) (by simp) (fun y hy => by cases hy) ?_
    unfold readAs at hk
    cases h : runRun 0 [] [] (wordsOf x) with
    | ok f =>
      rw [h] at hk
      intro w x3 x4 x5
      simp
      exact hk
    | error j =>
      rw [h] at hk
      intro ρ
      exact hk
  · simp [r_parse_run, outsOf, x_killAll]
    exact .inr ⟨d, rfl, ht, hn, hk⟩
end
end VL.L59

namespace VL.L59
open PySem PySem.Spec L2
section
variable {K : PySem.W.Frag} {mg : Str → Option Value} (G : Gx K mg)
theorem isTy_tup {d : D} {t : String} (e : tyName d = some t) (hn : ∀ ds, d ≠ .nd .tup ds) : isTy t "tuple" = false := by
  unfold tyName at e
  split at e <;> first | (cases e; decide) | cases e
  exact absurd rfl (hn _)
theorem isTy_lst {t : String} (hn : t ≠ "list") (hm : t ∈ ["NoneType", "bool", "int", "str", "list", "tuple", "dict"]) : isTy t "list" = false := by
  simp only [List.mem_cons, List.not_mem_nil, or_false] at hm
  rcases hm with rfl | rfl | rfl | rfl | rfl | rfl | rfl <;> first | decide | exact absurd rfl hn
theorem isKeyD_no {d : D} (hn : ∀ x, d ≠ .sc (.str x)) : isKeyD d = false := by
  unfold isKeyD
  split
  · exact absurd rfl (hn _)
  · rfl
theorem is_key_ofD {d : D} {φ : O → List O → Prop} {ε : Exc → List O → Prop} (h : Chd d) (hk : φ (.sh (.sc (.bl (isKeyD d)))) []) : sp_is_key G [.sh d] φ ε :=
  ⟨d, rfl, h.1, fun x e => Nat.le_trans (h.2.1 x e).1 (by decide +kernel), hk⟩
theorem p_is_integer : PureV 3 3 [] (r_is_integer G) (sp_is_integer G) := by
  intro os φ ε h _
  obtain ⟨d, l, rfl, ht, hk⟩ := h
  obtain ⟨t, et⟩ := Option.isSome_iff_exists.mp ht
  simp [r_is_integer, s_is_integer_0, outsOf, et, knownTy]
  cases d with
  | sc s =>
    cases s with
    | int i =>
      cases et
      simp [isTy]
      by_cases hl : i < l
      · simp [hl, isIntGe] at hk ⊢
        rw [decide_eq_false (by omega)] at hk
        exact hk
      · simp [hl, isIntGe, gIsN, nb, isNonD, vw] at hk ⊢
        rw [decide_eq_true (by omega)] at hk
        exact hk
    | bl b =>
      cases et
      simp [isTy]
      exact hk
    | non => cases et; simp [isTy]; exact hk
    | str x => cases et; simp [isTy]; exact hk
    | adr a => cases et
    | ty n => cases et
  | nd lb ds =>
    have : isTy t "int" = false := by
      cases lb <;> first | (cases et; decide) | cases et
    simp [this]
    exact hk
theorem is_integer_of {d : D} {l : Int} {φ : O → List O → Prop} {ε : Exc → List O → Prop} (h : (tyName d).isSome = true) (hk : φ (.sh (.sc (.bl (isIntGe l d)))) []) : sp_is_integer G [.sh d, .sh (.sc (.int l)), .sh (.sc .non)] φ ε := ⟨d, l, rfl, h, hk⟩
theorem p_is_write : PureV 1 1 [] (r_is_write G) (sp_is_write G) := by
  intro os φ ε h _
  obtain ⟨d, rfl, hi, hk⟩ := h
  obtain ⟨t, et⟩ := Option.isSome_iff_exists.mp hi.1.1
  by_cases hd : ∃ ds, d = .nd .tup ds
  · obtain ⟨ds, rfl⟩ := hd
    obtain ⟨hc, hl, _⟩ := hi.2.2 ds rfl
    cases et
    simp [r_is_write, outsOf, tyName, isTy, knownTy]
    match ds, hc, hk with
    | [], _, hk => simpa [isWrD, asCnt] using hk
    | [_], _, hk => simpa [isWrD, asCnt] using hk
    | _ :: _ :: _ :: _, _, hk =>
      rw [if_neg (by simp; omega)]
      simpa [isWrD, asCnt] using hk
    | [a, b], hc, hk =>
      simp [atI, ixN]
      refine is_key_ofD G (hc a (by simp)) ?_
      by_cases hs : ∃ x, a = .sc (.str x)
      · obtain ⟨x, rfl⟩ := hs
        by_cases hx : isKey x = true
        · simp [isKeyD, hx, x_killAll, atI, ixN]
          refine is_integer_of G (hc b (by simp)).1 ?_
          by_cases hb : ∃ n, b = .sc (.int n)
          · obtain ⟨n, rfl⟩ := hb
            simpa [isWrD, asCnt, hx, isIntGe] using hk
          · have e1 : isIntGe 1 b = false := by
              unfold isIntGe
              split
              · exact absurd ⟨_, rfl⟩ hb
              · rfl
            have e2 : isWrD (.nd .tup [.sc (.str x), b]) = false := by
              unfold isWrD asCnt
              split
              · rename_i p e
                split at e
                · rename_i y n e3
                  cases e3
                  exact absurd ⟨_, rfl⟩ hb
                · cases e
              · rfl
            rw [e1]
            rw [e2] at hk
            exact hk
        · have e2 : isWrD (.nd .tup [.sc (.str x), b]) = false := by
            unfold isWrD asCnt
            split
            · rename_i p e
              split at e
              · rename_i y n e3
                cases e3
                rw [if_neg hx] at e
                cases e
              · cases e
            · rfl
          rw [e2] at hk
          simp [isKeyD, hx]
          exact hk
      · have e2 : isWrD (.nd .tup [a, b]) = false := by
          unfold isWrD asCnt
          split
          · rename_i p e
            split at e
            · rename_i y n e3
              cases e3
              exact absurd ⟨_, rfl⟩ hs
            · cases e
          · rfl
        rw [e2] at hk
        rw [isKeyD_no fun x e => hs ⟨x, e⟩]
        simp
        exact hk
  · have hn : ∀ ds, d ≠ .nd .tup ds := fun ds e => hd ⟨ds, e⟩
    have e : isWrD d = false := by
      unfold isWrD asCnt
      split
      · rename_i p e
        split at e
        · exact absurd rfl (hn _)
        · cases e
      · rfl
    rw [e] at hk
    simp [r_is_write, outsOf, et, isTy_tup et hn, knownTy]
    exact hk
end
end VL.L59

namespace VL.L59
open PySem PySem.Spec L2
section
variable {K : PySem.W.Frag} {mg : Str → Option Value} (G : Gx K mg)
theorem asEv_no {d : D} (hn : ∀ ds, d ≠ .nd .tup ds) : asEv d = none := by
  unfold asEv
  split
  · exact absurd rfl (hn _)
  · exact absurd rfl (hn _)
  · rfl
theorem asEv_no1 {a : D} {cs : List D} (hn : ∀ x, a ≠ .sc (.str x)) : asEv (.nd .tup (a :: cs)) = none := by
  unfold asEv
  split
  · rename_i e; cases e; exact absurd rfl (hn _)
  · rename_i e; cases e; exact absurd rfl (hn _)
  · rfl
theorem asEv_one (x : Str) : (asEv (.nd .tup [.sc (.str x)])).isSome = decide (x = Str.ofString "send") := by
  unfold asEv
  by_cases h : x = Str.ofString "send" <;> simp [h]
theorem asEv_two (x : Str) (b : D) : (asEv (.nd .tup [.sc (.str x), b])).isSome = (decide (x = Str.ofString "write") && isKeyD b) := by
  by_cases hb : ∃ k, b = .sc (.str k)
  · obtain ⟨k, rfl⟩ := hb
    by_cases h : x = Str.ofString "write" <;> by_cases h2 : isKey k = true <;> simp [asEv, h, h2, isKeyD]
  · rw [isKeyD_no fun x e => hb ⟨x, e⟩, Bool.and_false]
    unfold asEv
    split
    · rename_i e; cases e
    · rename_i e
      cases e
      exact absurd ⟨_, rfl⟩ hb
    · rfl
theorem asEv_more (a b c : D) (cs : List D) : asEv (.nd .tup (a :: b :: c :: cs)) = none := by
  unfold asEv
  split
  · rename_i e; cases e
  · rename_i e; cases e
  · rfl
theorem dat_tup {n : Nat} {ds : List D} {p : PyData} (h : Dat n (.nd .tup ds) p) : ∃ ps, toPyL ds = some ps ∧ p = .tuple ps := by
  have e := h.1
  rw [toPy_tup] at e
  cases e1 : toPyL ds with
  | none => rw [e1] at e; cases e
  | some ps => rw [e1] at e; cases e; exact ⟨ps, rfl, rfl⟩
theorem toPyL_cons_of {d : D} {ds : List D} {ps : List PyData} (h : toPyL (d :: ds) = some ps) : ∃ p qs, toPy d = some p ∧ toPyL ds = some qs ∧ ps = p :: qs := by
  rw [toPyL_cons] at h
  cases e1 : toPy d with
  | none => rw [e1] at h; cases h
  | some p =>
    cases e2 : toPyL ds with
    | none => rw [e1, e2] at h; cases h
    | some qs => rw [e1, e2] at h; cases h; exact ⟨p, qs, rfl, rfl, rfl⟩
theorem send_dat : Dat 5 (.nd .tup [strD "send"]) (.tuple [.str "send"]) := (Dat.tup1 (Dat.str (n := 4) (by decide +kernel)))
/-- event == ("send",) -/
theorem eq_send {neg : Bool} {x : Str} {cs : List D} {p : PyData} {k : O → Prop} (h : Dat 5 (.nd .tup (.sc (.str x) :: cs)) p) (hk : k (.sh (.sc (.bl (nb neg (decide (x = Str.ofString "send" ∧ cs = [])))))) ) :
    gEq neg (.sh (.nd .tup (.sc (.str x) :: cs))) (.sh (.nd .tup [.sc (.str "send")])) k := by
  refine eq_dat (d := .nd .tup (.sc (.str x) :: cs)) (e := .nd .tup [strD "send"]) rfl rfl h send_dat (by decide) (by decide) (fun s t e => by cases e) ?_
  obtain ⟨ps, e1, rfl⟩ := dat_tup h
  obtain ⟨q, qs, e2, e3, rfl⟩ := toPyL_cons_of e1
  cases e2
  have e : PyData.eqv (.tuple (.str x :: qs)) (.tuple [.str "send"]) = decide (x = Str.ofString "send" ∧ cs = []) := by
    cases cs with
    | nil =>
      cases e3
      simp [PyData.eqv, PyData.eqvAll]
      by_cases h : x = Str.ofString "send"
      · subst h; simp
      · simp [h]
    | cons c cs =>
      obtain ⟨q2, qs2, _, _, rfl⟩ := toPyL_cons_of e3
      simp [PyData.eqv, PyData.eqvAll]
  rw [e]
  exact hk
theorem p_is_event : PureV 1 1 [] (r_is_event G) (sp_is_event G) := by
  intro os φ ε h _
  obtain ⟨d, rfl, hi, hk⟩ := h
  obtain ⟨t, et⟩ := Option.isSome_iff_exists.mp hi.1.1
  by_cases hd : ∃ ds, d = .nd .tup ds
  · obtain ⟨ds, rfl⟩ := hd
    obtain ⟨hc, hl, hdat⟩ := hi.2.2 ds rfl
    cases et
    have et0 : ∀ cs, tyName (.nd .tup cs) = some "tuple" := fun _ => rfl
    have ty0 : isTy "tuple" "tuple" = true := by decide
    have ty1 : isTy "str" "str" = true := by decide
    simp [r_is_event, s_is_event_0, s_is_event_1, outsOf, et0, ty0, knownTy, gNew, isBor, mkTup, shL]
    match ds, hc, hk, hl, hdat with
    | [], _, hk, _, _ => simpa [asEv] using hk
    | a :: cs, hc, hk, _, hdat =>
      simp [atI, ixN]
      obtain ⟨ta, eta⟩ := Option.isSome_iff_exists.mp (hc a List.mem_cons_self).1
      simp [eta]
      by_cases hs : ∃ x, a = .sc (.str x)
      · obtain ⟨x, rfl⟩ := hs
        cases eta
        obtain ⟨p, hp⟩ := hdat x cs rfl
        simp [ty1]
        match cs, hc, hk, hp with
        | [], _, hk, hp =>
          rw [asEv_one] at hk
          simp
          refine ⟨by decide +kernel, eq_send (neg := false) hp ?_⟩
          simpa [nb] using hk
        | [b], hc, hk, hp =>
          rw [asEv_two] at hk
          simp [x_killAll]
          by_cases hx : x = Str.ofString "write"
          · simp [hx, atI, ixN] at hk ⊢
            exact is_key_ofD G (hc b (by simp)) hk
          · simp [hx] at hk ⊢
            exact hk
        | b :: c :: cs, _, hk, hp =>
          rw [asEv_more] at hk
          rw [if_neg (by simp; omega)]
          refine ⟨by decide +kernel, eq_send (neg := false) hp ?_⟩
          simpa [nb] using hk
      · have hn : ∀ x, a ≠ .sc (.str x) := fun x e => hs ⟨x, e⟩
        rw [asEv_no1 hn] at hk
        simp [isTy_str eta hn]
        exact hk
  · have hn : ∀ ds, d ≠ .nd .tup ds := fun ds e => hd ⟨ds, e⟩
    rw [asEv_no hn] at hk
    simp [r_is_event, s_is_event_0, outsOf, et, isTy_tup et hn, knownTy]
    exact hk
theorem is_event_of {d : D} {φ : O → List O → Prop} {ε : Exc → List O → Prop} (h : Itm d) (hk : φ (.sh (.sc (.bl (asEv d).isSome))) []) : sp_is_event G [.sh d] φ ε := ⟨d, rfl, h, hk⟩
theorem is_write_of {d : D} {φ : O → List O → Prop} {ε : Exc → List O → Prop} (h : Itm d) (hk : φ (.sh (.sc (.bl (isWrD d)))) []) : sp_is_write G [.sh d] φ ε := ⟨d, rfl, h, hk⟩
theorem not_list {d : D} {t : String} (e : tyName d = some t) (h : tyName d ≠ some "list") : isTy t "list" = false :=
  isTy_lst (fun z => h (by rw [e, z])) (tyName_mem e)
theorem p_is_log : PureV 1 2 [] (r_is_log G) (sp_is_log G) := by
  intro os φ ε h _
  obtain ⟨d, rfl, hv, hk⟩ := h
  rcases hv with ⟨ds, rfl, hl, hi⟩ | ⟨ht, hn, _⟩
  · have et0 : ∀ cs, tyName (.nd .lst cs) = some "list" := fun _ => rfl
    have ty0 : isTy "list" "list" = true := by decide
    simp [r_is_log, outsOf, et0, ty0, knownTy]
    refine lc_map (W := _) (f := fun d => .sc (.bl (isKeyD d))) _ rfl (Nat.le_trans (show ([] : List D).length + ds.length ≤ 2000 by simpa using hl) (by decide +kernel)) (fun d hd φ' hφ => ?_) fun ρ2 hw => ?_
    · simp [wipeE, x_killAll]
      exact is_key_ofD G (hi d hd).1 (hφ _ _ rfl rfl)
    · rw [List.nil_append]
      refine gBls_map ?_
      simp only [List.all_map]
      simp [hw]
      exact hk
  · obtain ⟨t, et⟩ := Option.isSome_iff_exists.mp ht
    have e : good 0 d = false := by
      unfold good
      split
      · exact absurd rfl hn
      · rfl
    rw [e] at hk
    simp [r_is_log, outsOf, et, not_list et hn, knownTy]
    exact hk
theorem p_are_events : PureV 1 2 [] (r_are_events G) (sp_are_events G) := by
  intro os φ ε h _
  obtain ⟨d, rfl, hv, hk⟩ := h
  rcases hv with ⟨ds, rfl, hl, hi⟩ | ⟨ht, hn, _⟩
  · have et0 : ∀ cs, tyName (.nd .lst cs) = some "list" := fun _ => rfl
    have ty0 : isTy "list" "list" = true := by decide
    simp [r_are_events, outsOf, et0, ty0, knownTy]
    refine lc_map (W := _) (f := fun d => .sc (.bl (asEv d).isSome)) _ rfl (Nat.le_trans (show ([] : List D).length + ds.length ≤ 2000 by simpa using hl) (by decide +kernel)) (fun d hd φ' hφ => ?_) fun ρ2 hw => ?_
    · simp [wipeE, x_killAll]
      exact is_event_of G (hi d hd) (hφ _ _ rfl rfl)
    · rw [List.nil_append]
      refine gBls_map (f := fun d => (asEv d).isSome) ?_
      simp only [List.all_map]
      simp [hw]
      exact hk
  · obtain ⟨t, et⟩ := Option.isSome_iff_exists.mp ht
    have e : areEv d = false := by
      unfold areEv
      split
      · exact absurd rfl hn
      · rfl
    rw [e] at hk
    simp [r_are_events, outsOf, et, not_list et hn, knownTy]
    exact hk
end
end VL.L59

namespace VL.L59
open PySem PySem.Spec L2
section
variable {K : PySem.W.Frag} {mg : Str → Option Value} (G : Gx K mg)
def cntP : List (Str × Int) → List (Str × Int) → Bool
  | _, [] => true
  | m, p :: ps => decide ((lk m p.1).getD 0 < p.2) && cntP (pt m p.1 p.2) ps
theorem asCnt_some {d : D} {p : Str × Int} (h : asCnt d = some p) : d = cntD p ∧ isKey p.1 = true := by
  unfold asCnt at h
  split at h
  · split at h
    · cases h
      exact ⟨rfl, by assumption⟩
    · cases h
  · cases h
theorem asCnt_cntD {p : Str × Int} (h : isKey p.1 = true) : asCnt (cntD p) = some p := by
  obtain ⟨k, n⟩ := p
  have h' : isKey k = true := h
  simp [cntD, asCnt, strD, h']
theorem cntOk_map : ∀ (ps m : List (Str × Int)), (∀ p ∈ ps, isKey p.1 = true) → cntOk m (ps.map cntD) = cntP m ps
  | [], _, _ => rfl
  | p :: ps, m, h => by
    rw [List.map_cons, cntOk, asCnt_cntD (h p List.mem_cons_self)]
    show (decide ((lk m p.1).getD 0 < p.2) && cntOk (pt m p.1 p.2) (ps.map cntD)) = _
    rw [cntOk_map ps _ fun q hq => h q (List.mem_cons_of_mem _ hq)]
    rfl
theorem wr_all : ∀ (ds : List D), ds.all isWrD = true → ∃ ps : List (Str × Int), ds = ps.map cntD ∧ ∀ p ∈ ps, isKey p.1 = true ∧ 1 ≤ p.2
  | [], _ => ⟨[], rfl, fun p hp => by cases hp⟩
  | d :: ds, h => by
    rw [List.all_cons, Bool.and_eq_true] at h
    obtain ⟨ps, rfl, hp⟩ := wr_all ds h.2
    have h1 := h.1
    unfold isWrD at h1
    split at h1
    · rename_i p e
      obtain ⟨rfl, hk⟩ := asCnt_some e
      refine ⟨p :: ps, rfl, fun q hq => ?_⟩
      rcases List.mem_cons.mp hq with rfl | hq
      · exact ⟨hk, of_decide_eq_true h1⟩
      · exact hp q hq
    · cases h1
theorem ok_wr : ∀ (ds : List D) (m : List (Str × Int)), cntOk m ds = true → (∀ y, 0 ≤ (lk m y).getD 0) → ds.all isWrD = true
  | [], _, _, _ => rfl
  | d :: ds, m, h, hm => by
    rw [cntOk] at h
    split at h
    · rename_i k n e
      rw [Bool.and_eq_true, decide_eq_true_iff] at h
      have h0 := hm k
      have h1 : isWrD d = true := by
        unfold isWrD
        rw [e]
        exact decide_eq_true (by have := h.1; omega)
      rw [List.all_cons, h1, Bool.true_and]
      refine ok_wr ds _ h.2 fun y => ?_
      rw [lk_pt]
      split
      · have := h.1
        show 0 ≤ n
        omega
      · exact hm y
    · cases h
theorem st_counted {t : O} {k : VK} {ε : XP} (ht : kill t = t) {p : Str × Int} {m : List (Str × Int)} {x4 : O} (hm : m.length < sizeLine) (h1 : (lk m p.1).getD 0 < p.2 → ∀ x4, k.nx [t, dO eI (pt m p.1 p.2), .sh (strD p.1), .sh (.sc (.int p.2)), x4])
    (h2 : ¬ (lk m p.1).getD 0 < p.2 → k.rt (.sh (.sc (.bl false))) [t, dO eI m, .sh (strD p.1), .sh (.sc (.int p.2)), x4]) : s_is_counted_2 G [t, dO eI m, .sh (strD p.1), .sh (.sc (.int p.2)), x4] k ε := by
  simp [s_is_counted_2, s_is_counted_1, dO, strD]
  by_cases h : (lk m p.1).getD 0 < p.2
  · rw [if_neg (by omega)]
    simp [ht]
    exact ⟨hm, h1 h _⟩
  · rw [if_pos (by omega)]
    exact h2 h
theorem loop_counted {t : O} {k : VK} {ε : XP} (ht : kill t = t) : ∀ (ps m : List (Str × Int)) (x2 x3 x4 : O), m.length + ps.length ≤ sizeLine → (if cntP m ps = true then ∀ ρ, (ρ.map kill)[0]? = some t → k.nx ρ else ∀ ρ, k.rt (.sh (.sc (.bl false))) ρ) →
    vForL (vgTup 2 (vgCons (vgName 2) (vgCons (vgName 3) vgNil))) (s_is_counted_2 G) (ps.map cntD) [t, dO eI m, x2, x3, x4] k ε
  | [], m, x2, x3, x4, hl, h => h _ (by simp [ht])
  | p :: ps, m, x2, x3, x4, hl, h => by
    rw [List.length_cons] at hl
    simp only [List.map_cons, vForL]
    simp [cntD]
    refine st_counted G ht (by omega) (fun h1 y4 => ?_) (fun h1 => ?_)
    · simp [x_killAll]
      refine loop_counted ht ps _ _ _ _ (by have := pt_len m p.1 p.2; omega) ?_
      rw [cntP, decide_eq_true h1, Bool.true_and] at h
      exact h
    · rw [cntP, decide_eq_false h1, Bool.false_and] at h
      exact h _
theorem p_is_counted : PureV 1 5 [] (r_is_counted G) (sp_is_counted G) := by
  intro os φ ε h _
  obtain ⟨d, rfl, hv, hk⟩ := h
  rcases hv with ⟨ds, rfl, hl, hi⟩ | ⟨ht, hn, _⟩
  · have et0 : ∀ cs, tyName (.nd .lst cs) = some "list" := fun _ => rfl
    have ty0 : isTy "list" "list" = true := by decide
    simp [r_is_counted, s_is_counted_0, outsOf, et0, ty0, knownTy]
    refine lc_map (W := _) (f := fun d => .sc (.bl (isWrD d))) _ rfl (Nat.le_trans (show ([] : List D).length + ds.length ≤ 2000 by simpa using hl) (by decide +kernel)) (fun d hd φ' hφ => ?_) fun ρ2 hw => ?_
    · simp [wipeE, x_killAll]
      exact is_write_of G (hi d hd) (hφ _ _ rfl rfl)
    · rw [List.nil_append]
      refine gBls_map (f := isWrD) ?_
      simp only [List.all_map]
      simp only [hw]
      simp [wipeE]
      by_cases ha : ds.all isWrD = true
      · obtain ⟨ps, rfl, hp⟩ := wr_all ds ha
        have ha' : ∀ x ∈ ps, isWrD (cntD x) = true := by simpa using ha
        rw [if_pos (by rintro x; simp; rintro a b h rfl; exact ha' _ h)]
        refine loop_counted G (m := []) rfl ps _ _ _ (by rw [List.length_map] at hl; exact Nat.le_trans (by simpa using hl) (show 2000 ≤ sizeLine by decide +kernel)) ?_
        have hk' : φ (.sh (.sc (.bl (cntOk [] (ps.map cntD))))) [] := hk
        rw [cntOk_map ps [] fun p h => (hp p h).1] at hk'
        by_cases hc : cntP [] ps = true
        · rw [if_pos hc]
          rw [hc] at hk'
          intro ρ _
          simp
          exact hk'
        · rw [if_neg hc]
          rw [eq_false_of_ne_true hc] at hk'
          intro ρ
          exact hk'
      · have e : good 1 (.nd .lst ds) = false := by
          cases hc : good 1 (.nd .lst ds) with
          | false => rfl
          | true => exact absurd (ok_wr ds [] hc fun y => by simp [lk]) ha
        rw [e] at hk
        have ha' : ¬ ∀ x ∈ ds, isWrD x = true := by simpa using ha
        rw [if_neg (by simpa using ha')]
        exact hk
  · obtain ⟨t, et⟩ := Option.isSome_iff_exists.mp ht
    have e : good 1 d = false := by
      unfold good
      split
      · exact absurd rfl hn
      · rfl
    rw [e] at hk
    simp [r_is_counted, s_is_counted_0, outsOf, et, not_list et hn, knownTy]
    exact hk
end
end VL.L59

namespace VL.L59
open PySem PySem.Spec L2
section
variable {K : PySem.W.Frag} {mg : Str → Option Value} (G : Gx K mg)
theorem asEv_some {d : D} {e : Option Str} (h : asEv d = some e) : d = evD e ∧ ∀ k, e = some k → isKey k = true := by
  unfold asEv at h
  split at h
  · rename_i x
    by_cases hx : x = Str.ofString "send"
    · subst hx
      rw [if_pos rfl] at h
      cases h
      exact ⟨rfl, fun k e => by cases e⟩
    · rw [if_neg hx] at h
      cases h
  · rename_i x k
    by_cases hx : x = Str.ofString "write" ∧ isKey k = true
    · rw [if_pos hx] at h
      cases h
      obtain ⟨rfl, hk⟩ := hx
      exact ⟨rfl, fun k' e => by cases e; exact hk⟩
    · rw [if_neg hx] at h
      cases h
  · cases h
theorem asEv_evD {e : Option Str} (h : ∀ k, e = some k → isKey k = true) : asEv (evD e) = some e := by
  cases e with
  | none =>
    show (if Str.ofString "send" = Str.ofString "send" then some none else none) = _
    rw [if_pos rfl]
  | some k =>
    show (if Str.ofString "write" = Str.ofString "write" ∧ isKey k = true then some (some k) else none) = _
    rw [if_pos ⟨rfl, h k rfl⟩]
theorem evs_some : ∀ {ds : List D}, (ds.all fun e => (asEv e).isSome) = true → ∃ es, evs ds = some es ∧ ds = es.map evD ∧ ∀ k, some k ∈ es → isKey k = true
  | [], _ => ⟨[], rfl, rfl, fun k h => by cases h⟩
  | d :: ds, h => by
    rw [List.all_cons, Bool.and_eq_true] at h
    obtain ⟨es, h1, h2, h3⟩ := evs_some h.2
    obtain ⟨e, he⟩ := Option.isSome_iff_exists.mp h.1
    obtain ⟨e1, e2⟩ := asEv_some he
    refine ⟨e :: es, ?_, ?_, ?_⟩
    · rw [evs, he, h1]
    · rw [List.map_cons, ← e1, ← h2]
    · intro k hk
      rcases List.mem_cons.mp hk with hk | hk
      · exact e2 k hk.symm
      · exact h3 k hk
theorem evs_none : ∀ {ds : List D}, ¬ (ds.all fun e => (asEv e).isSome) = true → evs ds = none
  | [], h => absurd rfl h
  | d :: ds, h => by
    rw [evs]
    cases e : asEv d with
    | none => rfl
    | some a =>
      rw [List.all_cons, e] at h
      have := evs_none (ds := ds) fun z => h (by rw [z]; rfl)
      rw [this]
theorem evD_dat {e : Option Str} (h : ∀ k, e = some k → isKey k = true) : ∃ p, Dat 5 (evD e) p := by
  cases e with
  | none => exact ⟨_, send_dat⟩
  | some k => exact ⟨_, Dat.tup2 (Dat.str (n := 4) (by decide +kernel)) (Dat.str (isKey_ok (h k rfl)))⟩
theorem eq_sendE {neg : Bool} {e : Option Str} {k : O → Prop} (h : ∀ k, e = some k → isKey k = true) (hk : k (.sh (.sc (.bl (nb neg (decide (e = none))))))) : gEq neg (.sh (evD e)) (.sh (.nd .tup [.sc (.str "send")])) k := by
  obtain ⟨p, hp⟩ := evD_dat h
  cases e with
  | none =>
    refine eq_send (x := "send") (cs := []) hp ?_
    have : (decide (Str.ofString "send" = Str.ofString "send" ∧ ([] : List D) = [])) = decide ((none : Option Str) = none) := by simp
    rw [this]
    exact hk
  | some y =>
    refine eq_send (x := "write") (cs := [strD y]) hp ?_
    have : (decide (Str.ofString "write" = Str.ofString "send" ∧ ([strD y] : List D) = [])) = decide ((some y : Option Str) = none) := by simp
    rw [this]
    exact hk
theorem st_isrun {t : O} {k : VK} {ε : XP} (ht : kill t = t) {e : Option Str} {q : List Str} (he : ∀ k, e = some k → isKey k = true) (hqk : ∀ y ∈ q, isKey y = true) (hq : q.length < sizeLine)
    (h : match e with
      | some x => k.nx [t, .ow .lst ((enq q x).map strD), .sh (evD e)]
      | none => if q = [] then k.rt (.sh (.sc (.bl false))) [t, .ow .lst (q.map strD), .sh (evD e)] else k.nx [t, .ow .lst (q.tail.map strD), .sh (evD e)]) :
    s_is_run_4 G [t, .ow .lst (q.map strD), .sh (evD e)] k ε := by
  simp [s_is_run_4, gNew, isBor, mkTup, shL]
  refine ⟨by decide +kernel, eq_sendE he ?_⟩
  cases e with
  | none =>
    simp [nb, s_is_run_3, s_is_run_1, gNew, isBor, mkLst, shL]
    by_cases hq0 : q = []
    · subst hq0
      have h' : if ([] : List Str) = [] then k.rt (.sh (.sc (.bl false))) [t, .ow .lst (([] : List Str).map strD), .sh (evD none)] else k.nx [t, .ow .lst (([] : List Str).tail.map strD), .sh (evD none)] := h
      rw [if_pos rfl] at h'
      simpa using h'
    · obtain ⟨y, q', rfl⟩ := List.exists_cons_of_ne_nil hq0
      have h' : if (y :: q') = [] then k.rt (.sh (.sc (.bl false))) [t, .ow .lst ((y :: q').map strD), .sh (evD none)] else k.nx [t, .ow .lst ((y :: q').tail.map strD), .sh (evD none)] := h
      rw [if_neg (by simp)] at h'
      simp
      refine pop0_of ?_
      simpa [ht] using h'
  | some x =>
    simp [nb, s_is_run_2, evD, atI, ixN]
    refine notIn_q (he x rfl) hqk ?_
    simp
    have hh : k.nx [t, .ow .lst ((enq q x).map strD), .sh (evD (some x))] := h
    unfold enq at hh
    by_cases hxq : x ∈ q
    · rw [if_pos hxq] at hh ⊢
      exact hh
    · rw [if_neg hxq] at hh ⊢
      rw [List.map_append] at hh
      simp [ht, atI, ixN]
      exact ⟨hq, hh⟩
theorem loop_isrun {t : O} {k : VK} {ε : XP} (ht : kill t = t) : ∀ (es : List (Option Str)) (q : List Str) (x2 : O), (∀ k, some k ∈ es → isKey k = true) → (∀ y ∈ q, isKey y = true) → q.length + es.length ≤ sizeLine → (if runOkB q es = true then ∀ ρ, k.nx ρ else ∀ ρ, k.rt (.sh (.sc (.bl false))) ρ) →
    vForL (vgName 2) (s_is_run_4 G) (es.map evD) [t, .ow .lst (q.map strD), x2] k ε
  | [], q, x2, _, _, _, h => h _
  | e :: es, q, x2, he, hqk, hq, h => by
    rw [List.length_cons] at hq
    simp only [List.map_cons, vForL]
    simp
    refine st_isrun G ht (fun k hk => he k (hk ▸ List.mem_cons_self)) hqk (by omega) ?_
    cases e with
    | some x =>
      show _
      simp [x_killAll]
      refine loop_isrun ht es _ _ (fun k hk => he k (List.mem_cons_of_mem _ hk)) (enq_key hqk (he x List.mem_cons_self)) (by have := enq_len (q := q) (k := x); omega) h
    | none =>
      show if q = [] then _ else _
      have h' : if (decide (q ≠ []) && runOkB q.tail es) = true then ∀ ρ, k.nx ρ else ∀ ρ, k.rt (.sh (.sc (.bl false))) ρ := h
      by_cases hq0 : q = []
      · rw [if_pos hq0]
        subst hq0
        rw [if_neg (by simp)] at h'
        exact h' _
      · rw [if_neg hq0]
        rw [decide_eq_true hq0, Bool.true_and] at h'
        simp only [List.map_tail, x_killAll]
        rw [← List.map_tail]
        refine loop_isrun ht es _ _ (fun k hk => he k (List.mem_cons_of_mem _ hk)) (fun y hy => hqk y (List.mem_of_mem_tail hy)) (by rw [List.length_tail]; omega) h'
theorem are_events_of {d : D} {φ : O → List O → Prop} {ε : Exc → List O → Prop} (h : Vald d) (hk : φ (.sh (.sc (.bl (areEv d)))) []) : sp_are_events G [.sh d] φ ε := ⟨d, rfl, h, hk⟩
theorem good2_no {d : D} (h : ¬ areEv d = true) : good 2 d = false := by
  by_cases hd : ∃ ds, d = .nd .lst ds
  · obtain ⟨ds, rfl⟩ := hd
    show (match evs ds with
      | some es => runOkB [] es
      | none => false) = false
    rw [evs_none h]
  · unfold good
    split
    · exact absurd ⟨_, rfl⟩ hd
    · rfl
theorem p_is_run : PureV 1 3 [] (r_is_run G) (sp_is_run G) := by
  intro os φ ε h _
  obtain ⟨d, rfl, hv, hk⟩ := h
  simp [r_is_run, s_is_run_0, outsOf, x_killAll]
  refine are_events_of G hv ?_
  simp
  by_cases ha : areEv d = true
  · rw [if_pos ha]
    obtain ⟨ds, rfl⟩ : ∃ ds, d = .nd .lst ds := by
      unfold areEv at ha
      split at ha
      · exact ⟨_, rfl⟩
      · cases ha
    obtain ⟨es, h1, rfl, h3⟩ := evs_some ha
    have hk' : φ (.sh (.sc (.bl (match evs (es.map evD) with
      | some es => runOkB [] es
      | none => false)))) [] := hk
    rw [h1] at hk'
    have hl : es.length ≤ sizeLine := by
      rcases hv with ⟨ds', e, hl, _⟩ | ⟨_, hn, _⟩
      · cases e
        rw [List.length_map] at hl
        exact Nat.le_trans hl (by decide +kernel)
      · exact absurd rfl hn
    simp [gNew, isBor, mkLst, shL]
    refine loop_isrun G (q := []) rfl es _ h3 (fun y hy => by cases hy) (by simpa using hl) ?_
    by_cases hr : runOkB [] es = true
    · rw [if_pos hr]
      intro ρ
      simp
      have hk2 : φ (.sh (.sc (.bl (runOkB [] es)))) [] := hk'
      rw [hr] at hk2
      exact hk2
    · rw [if_neg hr]
      intro ρ
      have hk2 : φ (.sh (.sc (.bl (runOkB [] es)))) [] := hk'
      rw [eq_false_of_ne_true hr] at hk2
      exact hk2
  · rw [if_neg ha]
    rw [good2_no ha] at hk
    exact hk
end
end VL.L59

namespace VL.L59
open PySem PySem.Spec L2 SX
/-! ### texts of bounded runs of digits -/
theorem Dr.le {m n : Nat} {x : Str} (h : Dr m x) (hm : m ≤ n) : Dr n x := ⟨h.1, fun a b c e hb => Nat.le_trans (h.2 a b c e hb) hm⟩
theorem Dr.of_len {x : Str} (h : PyData.strOk x = true) : Dr x.length x := by
  refine ⟨?_, fun a b c e _ => ?_⟩
  · unfold PyData.strOk at h
    rw [← Array.all_toList, List.all_eq_true] at h
    exact fun c hc => of_decide_eq_true (h c hc)
  · rw [TL.len_tl]
    show b.length ≤ x.cps.toList.length
    rw [e]
    simp
    omega
theorem tl_app (x y : Str) : (x ++ y).cps.toList = x.cps.toList ++ y.cps.toList := TL.tl_append x y
/-- a part of two lists, one behind the other -/
theorem infix_app : ∀ {x y a b c : List Nat}, x ++ y = a ++ b ++ c → (∃ a' c', y = a' ++ b ++ c') ∨ (∃ a' c', x = a' ++ b ++ c') ∨ (∃ a' b1 b2 c', b = b1 ++ b2 ∧ x = a' ++ b1 ∧ y = b2 ++ c')
  | x, y, a, b, c, e => by
    by_cases h1 : x.length ≤ a.length
    · refine .inl ⟨a.drop x.length, c, ?_⟩
      have := congrArg (List.drop x.length) e
      rw [List.drop_left, List.append_assoc, List.drop_append_of_le_length h1] at this
      rw [this, List.append_assoc]
    · by_cases h2 : (a ++ b).length ≤ x.length
      · refine .inr (.inl ⟨a, x.drop (a ++ b).length, ?_⟩)
        have := congrArg (List.take (a ++ b).length) e
        rw [List.take_left, List.take_append_of_le_length h2] at this
        conv => lhs; rw [← List.take_append_drop (a ++ b).length x]
        rw [this]
      · have h3 : a.length < x.length := by omega
        have h4 : x.length < a.length + b.length := by simpa using h2
        refine .inr (.inr ⟨a, b.take (x.length - a.length), b.drop (x.length - a.length), c, (List.take_append_drop _ _).symm, ?_, ?_⟩)
        · have := congrArg (List.take x.length) e
          rw [List.take_left, List.append_assoc, List.take_append, List.take_of_length_le (Nat.le_of_lt h3), List.take_append_of_le_length (by omega)] at this
          exact this
        · have := congrArg (List.drop x.length) e
          rw [List.drop_left, List.append_assoc, List.drop_append, List.drop_of_length_le (Nat.le_of_lt h3), List.nil_append, List.drop_append_of_le_length (by omega)] at this
          exact this
theorem Dr.app {m n : Nat} {x y : Str} (h : Dr m x) (h2 : Dr n y) : Dr (m + n) (x ++ y) := by
  refine ⟨fun c hc => ?_, fun a b c e hb => ?_⟩
  · rw [tl_app] at hc
    rcases List.mem_append.mp hc with z | z
    · exact h.1 c z
    · exact h2.1 c z
  · rw [tl_app] at e
    rcases infix_app e with ⟨a', c', e⟩ | ⟨a', c', e⟩ | ⟨a', b1, b2, c', rfl, e1, e2⟩
    · exact Nat.le_trans (h2.2 a' b c' e hb) (by omega)
    · exact Nat.le_trans (h.2 a' b c' e hb) (by omega)
    · have l1 := h.2 a' b1 [] (by rw [e1, List.append_nil]) fun d hd => hb d (List.mem_append_left _ hd)
      have l2 := h2.2 [] b2 c' (by rw [e2, List.nil_append]) fun d hd => hb d (List.mem_append_right _ hd)
      rw [List.length_append]
      omega
/-- a sign that is no digit between -/
theorem Dr.sep {n : Nat} {x y : Str} {s : Nat} (h : Dr n x) (h2 : Dr n y) (hs : s < 48 ∨ 57 < s) (hs2 : s < 0x110000) : Dr n (x ++ S [s] ++ y) := by
  refine ⟨fun c hc => ?_, fun a b c e hb => ?_⟩
  · rw [tl_app, tl_app] at hc
    simp at hc
    rcases hc with z | z | z
    · exact h.1 c (by simpa using z)
    · rw [z]; exact hs2
    · exact h2.1 c (by simpa using z)
  · rw [tl_app, tl_app] at e
    have no : ∀ (u v w : List Nat), [s] = u ++ v ++ w → (∀ d ∈ v, 48 ≤ d ∧ d ≤ 57) → v = [] := by
      intro u v w e hv
      rcases v with _ | ⟨d, v⟩
      · rfl
      · exfalso
        have hd := hv d (by simp)
        have : d ∈ [s] := by rw [e]; simp
        rw [List.mem_singleton.mp this] at hd
        omega
    rcases infix_app e with ⟨a', c', e⟩ | ⟨a', c', e⟩ | ⟨a', b1, b2, c', rfl, e1, e2⟩
    · exact h2.2 a' b c' e hb
    · rcases infix_app e with ⟨a', c', e⟩ | ⟨a', c', e⟩ | ⟨a', b1, b2, c', rfl, e1, e2⟩
      · rw [no a' b c' e hb]; simp
      · exact h.2 a' b c' e hb
      · have := no [] b2 c' (by rw [List.nil_append]; exact e2) fun d hd => hb d (List.mem_append_right _ hd)
        subst this
        rw [List.append_nil]
        exact h.2 a' b1 [] (by rw [e1, List.append_nil]) fun d hd => hb d (by simpa using hd)
    · have : b1 = [] := by
        rcases List.eq_nil_or_concat b1 with z | ⟨l, d, z⟩
        · exact z
        · exfalso
          have z : b1 = l ++ [d] := by simpa using z
          subst z
          rw [← List.append_assoc] at e1
          have := List.append_inj_right' e1 (by simp)
          have hd := hb d (by simp)
          simp at this
          omega
      subst this
      rw [List.nil_append]
      exact h2.2 [] b2 c' (by rw [List.nil_append]; exact e2) fun d hd => hb d (by simpa using hd)
theorem strOk_key {x : Str} (h : isKey x = true) : Dr 12 x := (Dr.of_len (isKey_ok h)).le (isKey_len h).2
theorem Dr.nil {n : Nat} : Dr n (Str.ofString "") := (Dr.of_len (x := Str.ofString "") (by decide +kernel)).le (by
  have : (Str.ofString "").length = 0 := by decide +kernel
  omega)
theorem Dr.join {n : Nat} : ∀ {ps : List Str}, (∀ p ∈ ps, Dr n p) → Dr n (Str.join (Str.ofString " ") ps)
  | [], _ => Dr.nil
  | [x], h => h x (by simp)
  | x :: z :: r, h => by
    have e : Str.join (Str.ofString " ") (x :: z :: r) = x ++ S [32] ++ Str.join (Str.ofString " ") (z :: r) := by
      show x ++ Str.ofString " " ++ _ = _
      rw [ofS_sp]
    rw [e]
    exact (h x (by simp)).sep (Dr.join fun p hp => h p (List.mem_cons_of_mem _ hp)) (by decide) (by decide)
theorem join_len : ∀ (y : Str) (ps : List Str), (Str.join y ps).length ≤ (ps.map fun z : Str => z.length).sum + ps.length * y.length
  | y, [] => by show (0 : Nat) ≤ _; omega
  | y, [x] => by show x.length ≤ _; simp
  | y, x :: z :: r => by
    have e : Str.join y (x :: z :: r) = x ++ y ++ Str.join y (z :: r) := rfl
    have := join_len y (z :: r)
    rw [e, Str.length_append, Str.length_append, List.map_cons, List.sum_cons, List.length_cons (a := x), Nat.succ_mul]
    omega
theorem sum_le {ps : List Str} {m : Nat} (h : ∀ p ∈ ps, p.length ≤ m) : (ps.map fun z : Str => z.length).sum ≤ ps.length * m := by
  induction ps with
  | nil => simp
  | cons x ps ih =>
    have := ih fun p hp => h p (List.mem_cons_of_mem _ hp)
    have h1 := h x (by simp)
    rw [List.map_cons, List.sum_cons, List.length_cons, Nat.succ_mul]
    omega
/-- words joined: short, of few digits together -/
theorem joined {ps : List Str} {m n : Nat} (hl : ∀ p ∈ ps, p.length ≤ m) (hd : ∀ p ∈ ps, Dr n p) : (Txt.join (Str.ofString " ") ps).length ≤ ps.length * (m + 1) ∧ Dr n (Txt.join (Str.ofString " ") ps) ∧ (ps.map fun z : Str => z.length).sum + ps.length * (Str.ofString " ").length ≤ ps.length * (m + 1) := by
  have e1 : (Str.ofString " ").length = 1 := by decide +kernel
  have h1 := join_len (Str.ofString " ") ps
  have h2 := sum_le hl
  rw [e1] at h1 ⊢
  rw [TL.join_eq]
  have h3 : ps.length * (m + 1) = ps.length * m + ps.length := by rw [Nat.mul_add, Nat.mul_one]
  exact ⟨by omega, Dr.join hd, by omega⟩
theorem Dr.nodig {x : Str} (h : ∀ c ∈ x.cps.toList, 58 ≤ c ∨ c < 48) (h2 : ∀ c ∈ x.cps.toList, c < 0x110000) : Dr 0 x := by
  refine ⟨h2, fun a b c e hb => ?_⟩
  cases b with
  | nil => simp
  | cons d b =>
    exfalso
    have h3 := hb d (by simp)
    have h4 := h d (by rw [e]; simp)
    omega
theorem frD_fz {o : O} {d : D} {k : D → Prop} (h : fz o = some d) (hk : k d) : frD o k := by
  unfold frD
  rw [h]
  exact hk
/-- the words of words joined -/
theorem words_join {ps : List Str} (hne : ps ≠ []) (h : ∀ p ∈ ps, 32 ∉ p.cps.toList) (hs : Txt.join (Str.ofString " ") ps ≠ Str.ofString "") : wordsOf (Txt.join (Str.ofString " ") ps) = ps := by
  unfold wordsOf
  rw [if_neg hs]
  exact TL.split_join (y := Str.ofString " ") (s := 32) (S := []) (by decide +kernel) (by decide +kernel) hne h
section
variable {K : PySem.W.Frag} {mg : Str → Option Value} (G : Gx K mg)
theorem log_of {n : Nat} {o : O} {ks : List Str} {l : Int} {φ : O → List O → Prop} {ε : Exc → List O → Prop} (hs : Src n o) (hn : n < 2 ^ 80) (h1 : ks ≠ []) (h2 : ks.length ≤ 2 ^ 20) (h3 : ∀ k ∈ ks, isKey k = true) (h4 : 0 ≤ l) (h5 : l ≤ 2 ^ 20)
    (h : ∀ (ls : List Str) o', ls.length = l.toNat → (∀ k ∈ ls, k ∈ ks) → Src (n + 1 + 4 * l.toNat) o' → φ (.ow .lst (ls.map strD)) [o']) : sp__law_log G [o, .sh (.nd .lst (ks.map strD)), .sh (.sc (.int l))] φ ε := ⟨n, o, ks, l, rfl, hs, hn, h1, h2, h3, h4, h5, h⟩
theorem run_of {n : Nat} {o : O} {ks : List Str} {l : Int} {φ : O → List O → Prop} {ε : Exc → List O → Prop} (hs : Src n o) (hn : n < 2 ^ 80) (h1 : ks ≠ []) (h2 : ks.length ≤ 2 ^ 20) (h3 : ∀ k ∈ ks, isKey k = true) (h4 : 0 ≤ l) (h5 : l ≤ 2 ^ 20)
    (h : ∀ (es : List (Option Str)) o', es.length = l.toNat → (∀ k, some k ∈ es → k ∈ ks) → runOk [] es → Src (n + 1 + 2 * l.toNat) o' → φ (.ow .lst (es.map evD)) [o']) : sp__law_run G [o, .sh (.nd .lst (ks.map strD)), .sh (.sc (.int l))] φ ε := ⟨n, o, ks, l, rfl, hs, hn, h1, h2, h3, h4, h5, h⟩
def evT : Option Str → Str
  | none => Str.ofString "!"
  | some k => Str.ofString "+" ++ k
def evP : Option Str → PyData
  | none => .tuple [.str (Str.ofString "send")]
  | some k => .tuple [.str (Str.ofString "write"), .str k]
theorem evDat {e : Option Str} (h : ∀ k, e = some k → isKey k = true) : Dat 1 (evD e) (evP e) := by
  cases e with
  | none => exact Dat.tup1 (n := 0) (Dat.str (by decide +kernel))
  | some k => exact Dat.tup2 (n := 0) (Dat.str (by decide +kernel)) (Dat.str (isKey_ok (h k rfl)))
theorem words_text {ps : List Str} (h : ∀ p ∈ ps, 32 ∉ p.cps.toList ∧ 0 < p.length) : wordsOf (Txt.join (Str.ofString " ") ps) = ps := by
  cases ps with
  | nil =>
    unfold wordsOf
    rw [if_pos]
    rfl
  | cons p ps =>
    refine words_join (by simp) (fun q hq => (h q hq).1) fun z => ?_
    have h1 := join_mem_le (Str.ofString " ") (p :: ps) p (by simp)
    rw [← TL.join_eq, z] at h1
    have e : (Str.ofString "").length = 0 := by decide +kernel
    rw [e] at h1
    have := (h p (by simp)).2
    omega
end
end VL.L59

namespace VL.L59
open PySem PySem.Spec L2 SX
section
variable {K : PySem.W.Frag} {mg : Str → Option Value} (G : Gx K mg)
theorem is_log_of {d : D} {φ : O → List O → Prop} {ε : Exc → List O → Prop} (h : Vald d) (hk : φ (.sh (.sc (.bl (good 0 d)))) []) : sp_is_log G [.sh d] φ ε := ⟨d, rfl, h, hk⟩
theorem is_counted_of {d : D} {φ : O → List O → Prop} {ε : Exc → List O → Prop} (h : Vald d) (hk : φ (.sh (.sc (.bl (good 1 d)))) []) : sp_is_counted G [.sh d] φ ε := ⟨d, rfl, h, hk⟩
theorem is_run_of {d : D} {φ : O → List O → Prop} {ε : Exc → List O → Prop} (h : Vald d) (hk : φ (.sh (.sc (.bl (good 2 d)))) []) : sp_is_run G [.sh d] φ ε := ⟨d, rfl, h, hk⟩
theorem p_require_log : PureV 1 1 [] (r_require_log G) (sp_require_log G) := by
  intro os φ ε h _
  obtain ⟨d, rfl, hv, hk⟩ := h
  simp [r_require_log, s_require_log_0, outsOf, x_killAll]
  refine is_log_of G hv ?_
  simp
  by_cases h : good 0 d = true
  · rw [if_pos h] at hk ⊢
    exact hk
  · rw [if_neg h] at hk ⊢
    exact ⟨by decide +kernel, hk⟩
theorem p_require_counted : PureV 1 1 [] (r_require_counted G) (sp_require_counted G) := by
  intro os φ ε h _
  obtain ⟨d, rfl, hv, hk⟩ := h
  simp [r_require_counted, s_require_counted_0, outsOf, x_killAll]
  refine is_counted_of G hv ?_
  simp
  by_cases h : good 1 d = true
  · rw [if_pos h] at hk ⊢
    exact hk
  · rw [if_neg h] at hk ⊢
    exact ⟨by decide +kernel, hk⟩
theorem p_require_run : PureV 1 1 [] (r_require_run G) (sp_require_run G) := by
  intro os φ ε h _
  obtain ⟨d, rfl, hv, hk⟩ := h
  simp [r_require_run, s_require_run_0, outsOf, x_killAll]
  refine is_run_of G hv ?_
  simp
  by_cases h : good 2 d = true
  · rw [if_pos h] at hk ⊢
    exact hk
  · rw [if_neg h] at hk ⊢
    exact ⟨by decide +kernel, hk⟩
theorem int_nat {n : Int} (h : 0 ≤ n) : ∃ m : Nat, n = (m : Nat) := ⟨n.toNat, by omega⟩
theorem p_write_text : PureV 1 1 [] (r_write_text G) (sp_write_text G) := by
  intro os φ ε h _
  obtain ⟨k, n, rfl, hl, h0, h1, hk⟩ := h
  obtain ⟨m, rfl⟩ := int_nat h0
  have hm : m < 10 ^ 30 := by omega
  have hl2 := numS_len (k := 30) (by decide) hm
  simp [r_write_text, outsOf, atI, ixN]
  have e1 : (Str.ofString "#").length = 1 := by decide +kernel
  have e2 : sizeLine = 16777216 := by decide +kernel
  have e3 : (k ++ Str.ofString "#").length = k.length + 1 := by rw [Str.length_append, e1]
  refine ⟨by omega, logN (Nat.lt_of_lt_of_le hm (show 10 ^ 30 ≤ 2 ^ 1920 by decide +kernel)) (by decide), by omega, hk⟩
theorem write_text_of {k : Str} {n : Int} {φ : O → List O → Prop} {ε : Exc → List O → Prop} (hl : k.length ≤ 12) (h0 : 0 ≤ n) (h1 : n < 10 ^ 30) (hk : φ (.sh (strD (wordD (.nd .tup [.sc (.str k), .sc (.int n)])))) []) : sp_write_text G [.sh (.nd .tup [.sc (.str k), .sc (.int n)])] φ ε := ⟨k, n, rfl, hl, h0, h1, hk⟩
theorem keys_all : ∀ {ds : List D}, ds.all isKeyD = true → ∃ ks : List Str, ds = ks.map strD ∧ ∀ k ∈ ks, isKey k = true
  | [], _ => ⟨[], rfl, fun k h => by cases h⟩
  | d :: ds, h => by
    rw [List.all_cons, Bool.and_eq_true] at h
    obtain ⟨ks, rfl, hk⟩ := keys_all h.2
    have h1 := h.1
    unfold isKeyD at h1
    split at h1
    · rename_i x
      refine ⟨x :: ks, rfl, fun k hk' => ?_⟩
      rcases List.mem_cons.mp hk' with rfl | hk'
      · exact h1
      · exact hk k hk'
    · cases h1
/-- the words of a good value: short, few digits together, no space in them -/
def Wrd (w : Str) : Prop := w.length ≤ 43 ∧ Dr 42 w ∧ 32 ∉ w.cps.toList ∧ 0 < w.length
theorem wrd_join {ws : List Str} (hl : ws.length ≤ 2000) (h : ∀ w ∈ ws, Wrd w) : (ws.map fun z : Str => z.length).sum + ws.length * (Str.ofString " ").length ≤ 16777216 ∧ (Txt.join (Str.ofString " ") ws).length ≤ 88000 ∧ Dr 42 (Txt.join (Str.ofString " ") ws) ∧ wordsOf (Txt.join (Str.ofString " ") ws) = ws := by
  obtain ⟨j1, j2, j3⟩ := joined (ps := ws) (m := 43) (n := 42) (fun p hp => (h p hp).1) (fun p hp => (h p hp).2.1)
  have : ws.length * (43 + 1) ≤ 2000 * (43 + 1) := Nat.mul_le_mul_right _ hl
  exact ⟨by omega, by omega, j2, words_text fun p hp => (h p hp).2.2⟩
theorem key_chars {x : Str} (h : isKey x = true) : ∀ c ∈ x.cps.toList, c ∈ chrs.cps.toList := by
  unfold isKey at h
  rw [Bool.and_eq_true, List.all_eq_true] at h
  exact fun c hc => of_decide_eq_true (h.2 c hc)
theorem chrs_32 : 32 ∉ chrs.cps.toList := by decide +kernel
theorem wrd_key {k : Str} (h : isKey k = true) : Wrd k :=
  ⟨Nat.le_trans (isKey_len h).2 (by decide), (strOk_key h).le (by decide), fun z => chrs_32 (key_chars h _ z), (isKey_len h).1⟩
theorem numS_digits (n : Nat) : ∀ c ∈ (numS (n : Nat)).cps.toList, 48 ≤ c ∧ c ≤ 57 := by
  intro c hc
  have : c ∈ TL.numL n := by rw [← tl_numS]; exact hc
  exact TL.numL_digits n c this
theorem ofS_hs (k : Str) (c : Str) : k ++ Str.ofString "#" ++ c = k ++ S [35] ++ c := by rw [ofS_hash]
theorem wrd_cnt {k : Str} {n : Nat} (h : isKey k = true) (hn : n < 10 ^ 30) : Wrd (k ++ Str.ofString "#" ++ numS (n : Nat)) := by
  have hl2 := numS_len (k := 30) (by decide) hn
  have hl1 := (isKey_len h)
  have e1 : (Str.ofString "#").length = 1 := by decide +kernel
  have hd : Dr 30 (numS (n : Nat)) := by
    refine (Dr.of_len ?_).le hl2
    unfold PyData.strOk
    rw [← Array.all_toList, List.all_eq_true]
    intro c hc
    have := numS_digits n c hc
    exact decide_eq_true (by omega)
  refine ⟨?_, ?_, fun z => ?_, ?_⟩
  · rw [Str.length_append, Str.length_append]; omega
  · rw [ofS_hs]
    exact ((strOk_key h).le (by decide)).sep (hd.le (by decide)) (by decide) (by decide)
  · rw [tl_app, tl_app] at z
    rcases List.mem_append.mp z with z | z
    · rcases List.mem_append.mp z with z | z
      · exact chrs_32 (key_chars h _ z)
      · rw [ofS_hash] at z
        simp [S] at z
    · have := numS_digits n 32 z
      omega
  · rw [Str.length_append, Str.length_append]; omega
theorem wrd_ev {e : Option Str} (h : ∀ k, e = some k → isKey k = true) : Wrd (evT e) := by
  cases e with
  | none => exact ⟨by decide +kernel, Dr.nodig (by decide +kernel) (by decide +kernel) |>.le (by decide), by decide +kernel, by decide +kernel⟩
  | some k =>
    have hk := h k rfl
    have e1 : (Str.ofString "+").length = 1 := by decide +kernel
    have hl := isKey_len hk
    refine ⟨?_, ?_, fun z => ?_, ?_⟩
    · show (Str.ofString "+" ++ k).length ≤ 43
      rw [Str.length_append]; omega
    · exact ((Dr.of_len (x := Str.ofString "+") (by decide +kernel)).app (strOk_key hk)).le (by rw [e1]; decide)
    · have z' : 32 ∈ (Str.ofString "+" ++ k).cps.toList := z
      rw [tl_app] at z'
      rcases List.mem_append.mp z' with z | z
      · exact absurd z (by decide +kernel)
      · exact chrs_32 (key_chars hk _ z)
    · show 0 < (Str.ofString "+" ++ k).length
      rw [Str.length_append]; omega

theorem require_log_of {d : D} {φ : O → List O → Prop} {ε : Exc → List O → Prop} (h : Vald d) (hk : if good 0 d = true then φ (.sh (.sc .non)) [] else ε (errC G 0) []) : sp_require_log G [.sh d] φ ε := ⟨d, rfl, h, hk⟩
theorem require_counted_of {d : D} {φ : O → List O → Prop} {ε : Exc → List O → Prop} (h : Vald d) (hk : if good 1 d = true then φ (.sh (.sc .non)) [] else ε (errC G 1) []) : sp_require_counted G [.sh d] φ ε := ⟨d, rfl, h, hk⟩
theorem require_run_of {d : D} {φ : O → List O → Prop} {ε : Exc → List O → Prop} (h : Vald d) (hk : if good 2 d = true then φ (.sh (.sc .non)) [] else ε (errC G 2) []) : sp_require_run G [.sh d] φ ε := ⟨d, rfl, h, hk⟩
theorem good_lst {kind : Nat} {d : D} (h : good kind d = true) : ∃ ds, d = .nd .lst ds := by
  unfold good at h
  split at h
  · exact ⟨_, rfl⟩
  · cases h
theorem vald_lst {ds : List D} (h : Vald (.nd .lst ds)) : ds.length ≤ 2000 ∧ ∀ c ∈ ds, Itm c := by
  rcases h with ⟨ds', e, h1, h2⟩ | ⟨_, hn, _⟩
  · cases e
    exact ⟨h1, h2⟩
  · exact absurd rfl hn
theorem good0 {ds : List D} (h : good 0 (.nd .lst ds) = true) : ∃ ks : List Str, ds = ks.map strD ∧ ∀ k ∈ ks, isKey k = true := keys_all h
theorem good1 {ds : List D} (h : good 1 (.nd .lst ds) = true) : ∃ ps : List (Str × Int), ds = ps.map cntD ∧ (∀ p ∈ ps, isKey p.1 = true ∧ 1 ≤ p.2) ∧ cntP [] ps = true := by
  obtain ⟨ps, rfl, hp⟩ := wr_all ds (ok_wr ds [] h fun y => by simp [lk])
  refine ⟨ps, rfl, hp, ?_⟩
  have h' : cntOk [] (ps.map cntD) = true := h
  rwa [cntOk_map ps [] fun p h => (hp p h).1] at h'
theorem good2 {ds : List D} (h : good 2 (.nd .lst ds) = true) : ∃ es : List (Option Str), ds = es.map evD ∧ (∀ k, some k ∈ es → isKey k = true) ∧ runOkB [] es = true := by
  by_cases ha : areEv (.nd .lst ds) = true
  · obtain ⟨es, h1, rfl, h3⟩ := evs_some ha
    refine ⟨es, rfl, h3, ?_⟩
    have h' : (match evs (es.map evD) with
      | some es => runOkB [] es
      | none => false) = true := h
    rw [h1] at h'
    exact h'
  · rw [good2_no ha] at h
    cases h
theorem cnt_lt {ps : List (Str × Int)} (h : ∀ c ∈ ps.map cntD, Itm c) : ∀ p ∈ ps, p.2 < 10 ^ 30 := by
  intro p hp
  exact ((h (cntD p) (List.mem_map_of_mem hp)).2.2 _ rfl).1 _ (by simp) |>.2.2 p.2 rfl
theorem strsOf_strD (ks : List Str) : strsOf (ks.map strD) = some ks := by
  induction ks with
  | nil => rfl
  | cons k ks ih =>
    rw [List.map_cons]
    simp [strsOf, strD, ih]
theorem map_wordD {α : Type} (f : α → D) (g : α → Str) (h : ∀ x, wordD (f x) = g x) (xs : List α) : (xs.map f).map wordD = xs.map g := by
  rw [List.map_map]
  exact List.map_congr_left fun x _ => h x
theorem evWord (e : Option Str) : wordD (evD e) = evT e := by cases e <;> rfl
theorem p_format_log : PureV 1 1 [] (r_format_log G) (sp_format_log G) := by
  intro os φ ε h _
  obtain ⟨d, rfl, hv, hk⟩ := h
  simp [r_format_log, outsOf, x_killAll]
  refine require_log_of G hv ?_
  by_cases h : good 0 d = true
  · rw [if_pos h] at hk ⊢
    obtain ⟨ds, rfl⟩ := good_lst h
    obtain ⟨ks, rfl, hks⟩ := good0 h
    obtain ⟨hl, hi⟩ := vald_lst hv
    rw [List.length_map] at hl
    obtain ⟨w1, _⟩ := wrd_join hl fun w hw => wrd_key (hks w hw)
    simp [tyO, strsOf_strD]
    refine ⟨by simpa using w1, ?_⟩
    have hk' : φ (.sh (strD (Txt.join (Str.ofString " ") ((ks.map strD).map wordD)))) [] := hk
    rw [map_wordD strD id (fun x => rfl), List.map_id] at hk'
    exact hk'
  · rw [if_neg h] at hk ⊢
    exact hk
end
end VL.L59

namespace VL.L59
open PySem PySem.Spec L2 SX
section
variable {K : PySem.W.Frag} {mg : Str → Option Value} (G : Gx K mg)
theorem nat_of {n : Int} (h : 1 ≤ n) (h2 : n < 10 ^ 30) : ∃ m : Nat, n = (m : Nat) ∧ m < 10 ^ 30 := ⟨n.toNat, by omega, by omega⟩
theorem wrd_cntD {p : Str × Int} (h : isKey p.1 = true) (h1 : 1 ≤ p.2) (h2 : p.2 < 10 ^ 30) : Wrd (wordD (cntD p)) := by
  obtain ⟨k, n⟩ := p
  obtain ⟨m, e, hm⟩ := nat_of h1 h2
  have e' : n = (m : Nat) := e
  subst e'
  exact wrd_cnt h hm
theorem p_format_counted : PureV 1 2 [] (r_format_counted G) (sp_format_counted G) := by
  intro os φ ε h _
  obtain ⟨d, rfl, hv, hk⟩ := h
  simp [r_format_counted, outsOf, x_killAll]
  refine require_counted_of G hv ?_
  by_cases h : good 1 d = true
  · rw [if_pos h] at hk ⊢
    obtain ⟨ds, rfl⟩ := good_lst h
    obtain ⟨ps, rfl, hps, _⟩ := good1 h
    obtain ⟨hl, hi⟩ := vald_lst hv
    have hlt := cnt_lt hi
    rw [List.length_map] at hl
    obtain ⟨w1, _⟩ := wrd_join (ws := ps.map fun p => wordD (cntD p)) (by rwa [List.length_map]) fun w hw => by
      obtain ⟨p, hp, rfl⟩ := List.mem_map.mp hw
      exact wrd_cntD (hps p hp).1 (hps p hp).2 (hlt p hp)
    simp [tyO]
    refine lc_map (W := _) (f := fun d => strD (wordD d)) _ rfl (Nat.le_trans (show ([] : List D).length + (ps.map cntD).length ≤ 2000 by simpa using hl) (by decide +kernel)) (fun d hd φ' hφ => ?_) fun ρ2 hw => ?_
    · obtain ⟨p, hp, rfl⟩ := List.mem_map.mp hd
      simp [wipeE, x_killAll]
      exact write_text_of G (isKey_len (hps p hp).1).2 (by have := (hps p hp).2; omega) (hlt p hp) (hφ _ _ rfl rfl)
    · rw [List.nil_append, List.map_map]
      have e : (ps.map ((fun d => strD (wordD d)) ∘ cntD)) = (ps.map fun p => wordD (cntD p)).map strD := by rw [List.map_map]; rfl
      rw [e]
      rw [strsOf_strD]
      refine ⟨w1, ?_⟩
      have hk' : φ (.sh (strD (Txt.join (Str.ofString " ") ((ps.map cntD).map wordD)))) [] := hk
      rw [map_wordD cntD (fun p => wordD (cntD p)) (fun x => rfl)] at hk'
      exact hk'
  · rw [if_neg h] at hk ⊢
    exact hk
theorem p_format_run : PureV 1 2 [] (r_format_run G) (sp_format_run G) := by
  intro os φ ε h _
  obtain ⟨d, rfl, hv, hk⟩ := h
  simp [r_format_run, outsOf, x_killAll]
  refine require_run_of G hv ?_
  by_cases h : good 2 d = true
  · rw [if_pos h] at hk ⊢
    obtain ⟨ds, rfl⟩ := good_lst h
    obtain ⟨es, rfl, hes, _⟩ := good2 h
    obtain ⟨hl, hi⟩ := vald_lst hv
    rw [List.length_map] at hl
    obtain ⟨w1, _⟩ := wrd_join (ws := es.map evT) (by rwa [List.length_map]) fun w hw => by
      obtain ⟨e, he, rfl⟩ := List.mem_map.mp hw
      exact wrd_ev fun k hk => hes k (hk ▸ he)
    simp [tyO]
    refine lc_map (W := _) (f := fun d => strD (wordD d)) _ rfl (Nat.le_trans (show ([] : List D).length + (es.map evD).length ≤ 2000 by simpa using hl) (by decide +kernel)) (fun d hd φ' hφ => ?_) fun ρ2 hw => ?_
    · obtain ⟨e, he, rfl⟩ := List.mem_map.mp hd
      rw [evWord] at hφ
      cases e with
      | none =>
        simp [wipeE, evD, strD, atI, ixN]
        exact hφ _ _ rfl rfl
      | some k =>
        have hk1 := (isKey_len (hes k he)).2
        have e1 : (Str.ofString "+").length = 1 := by decide +kernel
        have e2 : sizeLine = 16777216 := by decide +kernel
        simp [wipeE, evD, strD, atI, ixN]
        exact ⟨by omega, hφ _ _ rfl rfl⟩
    · rw [List.nil_append, List.map_map]
      have e : (es.map ((fun d => strD (wordD d)) ∘ evD)) = (es.map evT).map strD := by
        rw [List.map_map]
        exact List.map_congr_left fun x _ => by simp [evWord]
      rw [e]
      rw [strsOf_strD]
      refine ⟨w1, ?_⟩
      have hk' : φ (.sh (strD (Txt.join (Str.ofString " ") ((es.map evD).map wordD)))) [] := hk
      rw [map_wordD evD evT evWord] at hk'
      exact hk'
  · rw [if_neg h] at hk ⊢
    exact hk
/-! ### what is written is read back -/
theorem firstBad_none : ∀ (ks : List Str) (i : Nat), (∀ k ∈ ks, isKey k = true) → firstBad i ks = none
  | [], _, _ => rfl
  | k :: ks, i, h => by rw [firstBad, if_pos (h k List.mem_cons_self), firstBad_none ks _ fun y hy => h y (List.mem_cons_of_mem _ hy)]
theorem numL_head : ∀ (n : Nat), 1 ≤ n → ∃ c l, TL.numL n = c :: l ∧ c ≠ 48
  | n, h => by
    by_cases h10 : n < 10
    · exact ⟨48 + n, [], TL.numL_lt h10, by omega⟩
    · obtain ⟨c, l, e, hc⟩ := numL_head (n / 10) (by omega)
      exact ⟨c, l ++ [48 + n % 10], by rw [TL.numL_step (by omega), e]; rfl, hc⟩
  termination_by n => n
  decreasing_by omega
theorem isCount_num {n : Nat} (h : 1 ≤ n) : isCount (numS (n : Nat)) = true := by
  obtain ⟨c, l, e, hc⟩ := numL_head n h
  have e2 : (numS (n : Nat)).cps.toList = c :: l := (tl_numS n).trans e
  have hd := TL.numL_digits n
  rw [e] at hd
  unfold isCount
  rw [e2]
  show (decide (c ≠ 48) && (c :: l).all fun c => decide (c ∈ digs.cps.toList)) = true
  rw [decide_eq_true hc, Bool.true_and, List.all_eq_true]
  intro d hd'
  have h1 := hd d hd'
  have h2 : ∀ i : Fin 10, 48 + i.1 ∈ digs.cps.toList := by decide +kernel
  have := h2 ⟨d - 48, by omega⟩
  rw [show 48 + (d - 48) = d by omega] at this
  exact decide_eq_true this
theorem cword_num {k : Str} {n : Nat} (h : isKey k = true) (h1 : 1 ≤ n) (h2 : n < 10 ^ 30) : cword (k ++ Str.ofString "#" ++ numS (n : Nat)) = some (k, (n : Int)) := by
  have e : k ++ Str.ofString "#" ++ numS (n : Nat) = S (k.cps.toList ++ ([35] ++ TL.numL n)) := by
    rw [ofS_hs, ← S_tl (k ++ S [35] ++ numS (n : Nat)), tl_app, tl_app]
    rw [show (numS (n : Nat)).cps.toList = TL.numL n from tl_numS n, List.append_assoc]
  have hk : 35 ∉ k.cps.toList := fun z => absurd (key_chars h _ z) (by decide +kernel)
  have hn : 35 ∉ TL.numL n := TL.numL_free (by decide)
  have hc : countIn (numS (n : Nat)) = some (n : Int) := by
    unfold countIn
    rw [if_pos (isCount_num h1)]
    exact TL.int_num (Nat.le_trans (TL.numL_len (k := 30) (by decide) h2) (by decide))
  unfold cword
  rw [e, ofS_hash, split_S (by simp) (by decide), TL.spl_part1 (S := []) hk, TL.spl_last1 hn]
  have e3 : S (TL.numL n) = numS (n : Nat) := by rw [← tl_numS]
  show (if isKey (S ([] ++ k.cps.toList)) = true then match countIn (S ([] ++ TL.numL n)) with
    | some c => some (S ([] ++ k.cps.toList), c)
    | none => none
    else none) = _
  rw [List.nil_append, List.nil_append, e3, hc, show S k.cps.toList = k from S_tl k, if_pos h]
theorem cntRun_ok : ∀ (ps : List (Str × Int)) (i : Nat) (m f : List (Str × Int)), (∀ p ∈ ps, isKey p.1 = true ∧ 1 ≤ p.2 ∧ p.2 < 10 ^ 30) → cntP m ps = true → cntRun i m f (ps.map fun p => wordD (cntD p)) = .ok (f ++ ps)
  | [], i, m, f, _, _ => by rw [List.map_nil, cntRun, List.append_nil]
  | p :: ps, i, m, f, h, hc => by
    obtain ⟨k, n⟩ := p
    obtain ⟨hk, h1, h2⟩ := h (k, n) List.mem_cons_self
    obtain ⟨m', e, hm⟩ := nat_of h1 h2
    have e' : n = (m' : Nat) := e
    subst e'
    rw [cntP, Bool.and_eq_true, decide_eq_true_iff] at hc
    have hw : cword (wordD (cntD (k, ((m' : Nat) : Int)))) = some (k, (m' : Int)) := cword_num hk (by have h3 : (1 : Int) ≤ (m' : Nat) := h1; omega) hm
    rw [List.map_cons, cntRun, hw]
    show (if ((m' : Nat) : Int) ≤ (lk m k).getD 0 then _ else _) = _
    rw [if_neg (by have h3 : (lk m k).getD 0 < ((m' : Nat) : Int) := hc.1; omega), cntRun_ok ps _ _ _ (fun q hq => h q (List.mem_cons_of_mem _ hq)) hc.2, List.append_assoc]
    rfl
theorem rword_evT {e : Option Str} (h : ∀ k, e = some k → isKey k = true) : rword (evT e) = e := by
  cases e with
  | none => exact rword_mark
  | some k =>
    have e1 : (evT (some k)).cps.toList = 43 :: k.cps.toList := by
      show (Str.ofString "+" ++ k).cps.toList = _
      rw [tl_app, ofS_plus]
      rfl
    unfold rword
    rw [e1]
    show (if isKey ⟨k.cps.toList.toArray⟩ = true then some (⟨k.cps.toList.toArray⟩ : Str) else none) = _
    have e2 : (⟨k.cps.toList.toArray⟩ : Str) = k := by obtain ⟨⟨l⟩⟩ := k; rfl
    rw [e2, if_pos (h k rfl)]
theorem runRun_ok : ∀ (es : List (Option Str)) (i : Nat) (q : List Str) (f : List (Option Str)), (∀ k, some k ∈ es → isKey k = true) → runOkB q es = true → runRun i q f (es.map evT) = .ok (f ++ es)
  | [], i, q, f, _, _ => by rw [List.map_nil, runRun, List.append_nil]
  | some k :: es, i, q, f, h, hc => by
    rw [List.map_cons, runRun, rword_evT fun k' e => h k' (e ▸ List.mem_cons_self)]
    show runRun (i + 1) (enq q k) (f ++ [some k]) (es.map evT) = _
    rw [runRun_ok es _ _ _ (fun k' hk => h k' (List.mem_cons_of_mem _ hk)) hc, List.append_assoc]
    rfl
  | none :: es, i, q, f, h, hc => by
    have hc' : (decide (q ≠ []) && runOkB q.tail es) = true := hc
    rw [Bool.and_eq_true, decide_eq_true_iff] at hc'
    rw [List.map_cons, runRun, rword_evT fun k' e => by cases e]
    show (if evT none = Str.ofString "!" ∧ q ≠ [] then _ else _) = _
    rw [if_pos ⟨rfl, hc'.1⟩, runRun_ok es _ _ _ (fun k' hk => h k' (List.mem_cons_of_mem _ hk)) hc'.2, List.append_assoc]
    rfl
/-- what the text of a good value is -/
theorem text_good {kind : Nat} {ds : List D} (hk : kind < 3) (hv : Vald (.nd .lst ds)) (h : good kind (.nd .lst ds) = true) :
    (textOf (.nd .lst ds)).length ≤ 88000 ∧ Dr 42 (textOf (.nd .lst ds)) ∧ readAs kind (textOf (.nd .lst ds)) = .ok ds := by
  obtain ⟨hl, hi⟩ := vald_lst hv
  have ht : ∀ ws : List Str, ds.map wordD = ws → textOf (.nd .lst ds) = Txt.join (Str.ofString " ") ws := fun ws e => by rw [← e]; rfl
  match kind, hk, h with
  | 0, _, h =>
    obtain ⟨ks, rfl, hks⟩ := good0 h
    rw [List.length_map] at hl
    obtain ⟨_, w2, w3, w4⟩ := wrd_join hl fun w hw => wrd_key (hks w hw)
    rw [ht ks (by rw [map_wordD strD id (fun x => rfl), List.map_id])]
    refine ⟨w2, w3, ?_⟩
    unfold readAs
    rw [w4, firstBad_none ks 0 hks]
    rfl
  | 1, _, h =>
    obtain ⟨ps, rfl, hps, hc⟩ := good1 h
    have hlt := cnt_lt hi
    rw [List.length_map] at hl
    obtain ⟨_, w2, w3, w4⟩ := wrd_join (ws := ps.map fun p => wordD (cntD p)) (by rwa [List.length_map]) fun w hw => by
      obtain ⟨p, hp, rfl⟩ := List.mem_map.mp hw
      exact wrd_cntD (hps p hp).1 (hps p hp).2 (hlt p hp)
    rw [ht _ (map_wordD cntD (fun p => wordD (cntD p)) (fun x => rfl) ps)]
    refine ⟨w2, w3, ?_⟩
    unfold readAs
    rw [w4, cntRun_ok ps 0 [] [] (fun p hp => ⟨(hps p hp).1, (hps p hp).2, hlt p hp⟩) hc, List.nil_append]
    rfl
  | 2, _, h =>
    obtain ⟨es, rfl, hes, hr⟩ := good2 h
    rw [List.length_map] at hl
    obtain ⟨_, w2, w3, w4⟩ := wrd_join (ws := es.map evT) (by rwa [List.length_map]) fun w hw => by
      obtain ⟨e, he, rfl⟩ := List.mem_map.mp hw
      exact wrd_ev fun k hk => hes k (hk ▸ he)
    rw [ht _ (map_wordD evD evT evWord es)]
    refine ⟨w2, w3, ?_⟩
    unfold readAs
    rw [w4, runRun_ok es 0 [] [] hes hr, List.nil_append]
    rfl
end
end VL.L59

namespace VL.L59
open PySem PySem.Spec L2 SX
section
variable {K : PySem.W.Frag} {mg : Str → Option Value} (G : Gx K mg)
theorem items_shown : ∀ {ds : List D}, (∀ c ∈ ds, Shn 300 c) → ∃ ps, toPyDL ds = some ps ∧ PyData.showableAll ps = true ∧ PyData.depthAll ps ≤ 10 ∧ piled (PyData.shownAll ps) ≤ ds.length * 302
  | [], _ => ⟨[], rfl, by simp [PyData.showableAll], by simp [PyData.depthAll], by simp [PyData.shownAll, piled]⟩
  | d :: ds, h => by
    obtain ⟨ps, h1, h2, h3, h4⟩ := items_shown fun c hc => h c (List.mem_cons_of_mem _ hc)
    obtain ⟨p, g1, g2, g3, g4⟩ := h d List.mem_cons_self
    refine ⟨p :: ps, ?_, by simp [PyData.showableAll, g2, h2], ?_, ?_⟩
    · rw [toPyDL, g1, h1]
    · simp only [PyData.depthAll]
      omega
    · show piled (p.shown :: PyData.shownAll ps) ≤ _
      rw [piled_cons, List.length_cons, Nat.succ_mul]
      omega
theorem vald_shn {d : D} (h : Vald d) : ∃ p, toPyD d = some p ∧ p.showable = true ∧ p.depth ≤ 60 ∧ p.shown.length ≤ sizeLine := by
  rcases h with ⟨ds, rfl, hl, hi⟩ | ⟨_, _, p, h1, h2, h3, h4⟩
  · obtain ⟨ps, h1, h2, h3, h4⟩ := items_shown fun c hc => (hi c hc).2.1
    refine ⟨.list ps, ?_, by simpa [PyData.showable] using h2, ?_, ?_⟩
    · show (toPyDL ds).map PyData.list = _
      rw [h1]
      rfl
    · simp only [PyData.depth]
      omega
    · have := listText_len (PyData.shownAll ps)
      have e : sizeLine = 16777216 := by decide +kernel
      have h5 : ds.length * 302 ≤ 2000 * 302 := Nat.mul_le_mul_right _ hl
      show (listText (PyData.shownAll ps)).length ≤ _
      omega
  · exact ⟨p, h1, h2, Nat.le_trans h3 (by decide), Nat.le_trans h4 (by decide +kernel)⟩

theorem parse_of {kind : Nat} {x : Str} {l : List D} {φ : O → List O → Prop} {ε : Exc → List O → Prop} (hz : x.length + 2 ≤ sizeLine) (hd : Dr 640 x) (hr : readAs kind x = .ok l) (h : φ (.ow .lst l) []) : sp_parse G kind [.sh (.sc (.str x))] φ ε := .inl ⟨x, rfl, hz, hd, by rw [hr]; exact h⟩
theorem format_of {kind : Nat} {d : D} {φ : O → List O → Prop} {ε : Exc → List O → Prop} (h : Gd kind d) (hk : φ (.sh (strD (textOf d))) []) : sp_format G kind [.sh d] φ ε := ⟨d, rfl, h.1, by rw [if_pos h.2]; exact hk⟩
theorem p__law_written : PureV 2 2 [] (r__law_written G) (sp__law_written G) := by
  intro os φ ε h _
  obtain ⟨kind, d, rfl, hk3, hg, hk⟩ := h
  have e2 : sizeLine = 16777216 := by decide +kernel
  simp [r__law_written, outsOf, gNew, isBor, mkLst, shL, x_killAll]
  refine ⟨by omega, ?_⟩
  match kind, hk3, hg with
  | 0, _, hg => exact .inl ⟨rfl, format_of G hg hk⟩
  | 1, _, hg => exact .inr (.inl ⟨rfl, format_of G hg hk⟩)
  | 2, _, hg => exact .inr (.inr ⟨rfl, format_of G hg hk⟩)
theorem p__law_read : PureV 2 2 [] (r__law_read G) (sp__law_read G) := by
  intro os φ ε h _
  obtain ⟨kind, ds, rfl, hk3, hg, hk⟩ := h
  have e2 : sizeLine = 16777216 := by decide +kernel
  obtain ⟨t1, t2, t3⟩ := text_good hk3 hg.1 hg.2
  simp [r__law_read, outsOf, gNew, isBor, mkLst, shL, x_killAll, strD]
  refine ⟨by omega, ?_⟩
  match kind, hk3, hg, t3 with
  | 0, _, hg, t3 => exact .inl ⟨rfl, parse_of G (kind := 0) (by omega) (t2.le (by decide)) t3 hk⟩
  | 1, _, hg, t3 => exact .inr (.inl ⟨rfl, parse_of G (kind := 1) (by omega) (t2.le (by decide)) t3 hk⟩)
  | 2, _, hg, t3 => exact .inr (.inr ⟨rfl, parse_of G (kind := 2) (by omega) (t2.le (by decide)) t3 hk⟩)
theorem p__law_text : PureV 2 5 [] (r__law_text G) (sp__law_text G) := by
  intro os φ ε h _
  obtain ⟨kind, d, rfl, hk3, hg, hk⟩ := h
  have e2 : sizeLine = 16777216 := by decide +kernel
  obtain ⟨ds, rfl⟩ := good_lst hg.2
  obtain ⟨hl, hi⟩ := vald_lst hg.1
  match kind, hk3, hg with
  | 0, _, hg =>
    obtain ⟨ks, rfl, hks⟩ := good0 hg.2
    rw [List.length_map] at hl
    obtain ⟨w1, w2, w3, w4⟩ := wrd_join hl fun w hw => wrd_key (hks w hw)
    have hk' : φ (.sh (strD (Txt.join (Str.ofString " ") ((ks.map strD).map wordD)))) [] := hk
    rw [map_wordD strD id (fun x => rfl), List.map_id] at hk'
    simp [r__law_text, s__law_text_0, outsOf, tyO, strsOf_strD]
    exact ⟨w1, hk'⟩
  | 1, _, hg =>
    obtain ⟨ps, rfl, hps, _⟩ := good1 hg.2
    have hlt := cnt_lt hi
    rw [List.length_map] at hl
    obtain ⟨w1, _⟩ := wrd_join (ws := ps.map fun p => wordD (cntD p)) (by rwa [List.length_map]) fun w hw => by
      obtain ⟨p, hp, rfl⟩ := List.mem_map.mp hw
      exact wrd_cntD (hps p hp).1 (hps p hp).2 (hlt p hp)
    simp [r__law_text, s__law_text_0, s__law_text_1, outsOf, tyO]
    refine lc_map (W := _) (f := fun d => strD (wordD d)) _ rfl (Nat.le_trans (show ([] : List D).length + (ps.map cntD).length ≤ 2000 by simpa using hl) (by decide +kernel)) (fun d hd φ' hφ => ?_) fun ρ2 hw => ?_
    · obtain ⟨p, hp, rfl⟩ := List.mem_map.mp hd
      obtain ⟨m, e, hm⟩ := nat_of (hps p hp).2 (hlt p hp)
      have hkl := (isKey_len (hps p hp).1).2
      obtain ⟨k, n⟩ := p
      have e' : n = (m : Nat) := e
      subst e'
      have hl2 := numS_len (k := 30) (by decide) hm
      have e1 : (Str.ofString "#").length = 1 := by decide +kernel
      have e3 : (k ++ Str.ofString "#").length = k.length + 1 := by rw [Str.length_append, e1]
      have hkl' : k.length ≤ 12 := hkl
      simp [wipeE, cntD]
      refine ⟨by omega, logN (Nat.lt_of_lt_of_le hm (show 10 ^ 30 ≤ 2 ^ 1920 by decide +kernel)) (by decide), by omega, hφ _ _ rfl rfl⟩
    · rw [List.nil_append, List.map_map]
      have e : (ps.map ((fun d => strD (wordD d)) ∘ cntD)) = (ps.map fun p => wordD (cntD p)).map strD := by rw [List.map_map]; rfl
      rw [e]
      rw [strsOf_strD]
      refine ⟨w1, ?_⟩
      have hk' : φ (.sh (strD (Txt.join (Str.ofString " ") ((ps.map cntD).map wordD)))) [] := hk
      rw [map_wordD cntD (fun p => wordD (cntD p)) (fun x => rfl)] at hk'
      exact hk'
  | 2, _, hg =>
    obtain ⟨es, rfl, hes, _⟩ := good2 hg.2
    rw [List.length_map] at hl
    obtain ⟨w1, _⟩ := wrd_join (ws := es.map evT) (by rwa [List.length_map]) fun w hw => by
      obtain ⟨e, he, rfl⟩ := List.mem_map.mp hw
      exact wrd_ev fun k hk => hes k (hk ▸ he)
    simp [r__law_text, s__law_text_0, s__law_text_1, outsOf, tyO]
    refine lc_map (W := _) (f := fun d => strD (wordD d)) _ rfl (Nat.le_trans (show ([] : List D).length + (es.map evD).length ≤ 2000 by simpa using hl) (by decide +kernel)) (fun d hd φ' hφ => ?_) fun ρ2 hw => ?_
    · obtain ⟨e, he, rfl⟩ := List.mem_map.mp hd
      have hek : ∀ k, e = some k → isKey k = true := fun k hk => hes k (hk ▸ he)
      rw [evWord] at hφ
      simp [wipeE, gNew, isBor, mkTup, shL]
      refine ⟨by omega, eq_sendE (neg := false) hek ?_⟩
      cases e with
      | none =>
        simp [nb]
        exact hφ _ _ rfl rfl
      | some k =>
        have hk1 := (isKey_len (hek k rfl)).2
        have e1 : (Str.ofString "+").length = 1 := by decide +kernel
        simp [nb, evD, strD, atI, ixN]
        exact ⟨by omega, hφ _ _ rfl rfl⟩
    · rw [List.nil_append, List.map_map]
      have e : (es.map ((fun d => strD (wordD d)) ∘ evD)) = (es.map evT).map strD := by
        rw [List.map_map]
        exact List.map_congr_left fun x _ => by simp [evWord]
      rw [e]
      rw [strsOf_strD]
      refine ⟨w1, ?_⟩
      have hk' : φ (.sh (strD (Txt.join (Str.ofString " ") ((es.map evD).map wordD)))) [] := hk
      rw [map_wordD evD evT evWord] at hk'
      exact hk'
end
end VL.L59

namespace VL.L59
open PySem PySem.Spec L2 SX
section
variable {K : PySem.W.Frag} {mg : Str → Option Value} (G : Gx K mg)
theorem cntP_app : ∀ (ps m : List (Str × Int)) (p : Str × Int), cntP m (ps ++ [p]) = (cntP m ps && decide ((lk (ps.foldl (fun m q => pt m q.1 q.2) m) p.1).getD 0 < p.2))
  | [], m, p => by
    simp [cntP]
    try exact decide_eq_decide.mpr Iff.rfl
  | q :: ps, m, p => by
    rw [List.cons_append, cntP, cntP_app ps, cntP, Bool.and_assoc]
    rfl
/-- one item of a counted log -/
theorem st_cntd {k : VK} {ε : XP} {s o : O} {n : Nat} {f : List (Str × Int)} {m : List (Str × Int)} {step : Int} {key : Str} {x6 : O} (hs : Src n o) (hn : n < 2 ^ 90) (h0 : kill s = s) (h1 : 0 < step) (h2 : step ≤ 10 ^ 27) (hm : m.length ≤ f.length) (hf : f.length < 2 ^ 20)
    (h : ∀ c o' x6, (lk m key).getD 0 < c → c ≤ (lk m key).getD 0 + 10 ^ 27 → Src (n + 1) o' → k.nx [o', s, .ow .lst ((f ++ [(key, c)]).map cntD), dO eI (pt m key c), .sh (.sc (.int step)), .sh (strD key), x6]) :
    s__law_counted_0 G [o, s, .ow .lst (f.map cntD), dO eI m, .sh (.sc (.int step)), .sh (strD key), x6] k ε := by
  have e2 : sizeLine = 16777216 := by decide +kernel
  have hk0 := hs.kill
  obtain ⟨dd, e⟩ := hs.own
  subst e
  simp [s__law_counted_0, dO, strD, x_killAll]
  refine draw_of G hs (by omega) h1 (by omega) fun r o' g0 g1 hs' => ?_
  have hk1 := hs'.kill
  simp [h0, hk1, gNew, isBor, mkTup, shL]
  have hh := h ((lk m key).getD 0 + 1 + r) o' (.sh (.sc (.int ((lk m key).getD 0 + 1 + r)))) (by omega) (by omega) hs'
  simp only [dO] at hh ⊢
  rw [List.map_append] at hh
  refine ⟨by omega, ?_⟩
  simp [shL]
  exact ⟨by omega, by omega, hh⟩
def mapOf (ps : List (Str × Int)) : List (Str × Int) := ps.foldl (fun m q => pt m q.1 q.2) []
theorem mapOf_app (ps : List (Str × Int)) (p : Str × Int) : mapOf (ps ++ [p]) = pt (mapOf ps) p.1 p.2 := by
  unfold mapOf
  rw [List.foldl_append]
  rfl
theorem loop_cntd {k : VK} {ε : XP} {s : O} {step : Int} (h0 : kill s = s) (h1 : 0 < step) (h2 : step ≤ 10 ^ 27) : ∀ (ks : List Str) (n : Nat) (o x5 x6 : O) (f : List (Str × Int)) (B : Int), Src n o → n + ks.length < 2 ^ 90 → (mapOf f).length ≤ f.length → f.length + ks.length ≤ 200 → (∀ x ∈ ks, isKey x = true) → (∀ x, 0 ≤ (lk (mapOf f) x).getD 0 ∧ (lk (mapOf f) x).getD 0 ≤ B) →
    (∀ p ∈ f, isKey p.1 = true ∧ 1 ≤ p.2 ∧ p.2 ≤ B) → cntP [] f = true →
    (∀ (f1 : List (Str × Int)) o' m x5 x6, Src (n + ks.length) o' → (∀ p ∈ f1, isKey p.1 = true ∧ 1 ≤ p.2 ∧ p.2 ≤ B + 10 ^ 27 * (ks.length : Nat)) → f1.length = f.length + ks.length → cntP [] f1 = true → k.nx [o', s, .ow .lst (f1.map cntD), m, .sh (.sc (.int step)), x5, x6]) →
    vForL (vgName 5) (s__law_counted_0 G) (ks.map strD) [o, s, .ow .lst (f.map cntD), dO eI (mapOf f), .sh (.sc (.int step)), x5, x6] k ε
  | [], n, o, x5, x6, f, B, hs, hn, hm, hf, hk, hB, hp, hc, h => h f o _ x5 x6 hs (fun p hq => ⟨(hp p hq).1, (hp p hq).2.1, by have h2 := (hp p hq).2.2; show p.2 ≤ B + 10 ^ 27 * ((0 : Nat) : Int); omega⟩) rfl hc
  | key :: ks, n, o, x5, x6, f, B, hs, hn, hm, hf, hk, hB, hp, hc, h => by
    rw [List.length_cons] at hn hf
    simp only [List.map_cons, vForL, x_gName, List.set_cons_succ, List.set_cons_zero]
    refine st_cntd G hs (by omega) h0 h1 h2 hm (by omega) fun c o' x6 c0 c1 hs' => ?_
    have hb := hB key
    have em := mapOf_app f (key, c)
    have em' : pt (mapOf f) key c = mapOf (f ++ [(key, c)]) := em.symm
    rw [em']
    refine loop_cntd h0 h1 h2 ks (n + 1) o' _ _ _ (B + 10 ^ 27) hs' (by omega) (by rw [← em']; have := pt_len (mapOf f) key c; rw [List.length_append, List.length_singleton]; omega) (by rw [List.length_append, List.length_singleton]; omega) (fun x hx => hk x (List.mem_cons_of_mem _ hx)) (fun x => ?_) (fun p hq => ?_) ?_ fun f1 o2 m x5 x6 g3 g4 g5 g6 => ?_
    · rw [← em', lk_pt]
      by_cases e : key = x
      · rw [if_pos e]
        show 0 ≤ c ∧ c ≤ B + 10 ^ 27
        omega
      · rw [if_neg e]
        have := hB x
        omega
    · rcases List.mem_append.mp hq with z | z
      · have := hp p z
        exact ⟨this.1, by omega, by omega⟩
      · rw [List.mem_singleton.mp z]
        exact ⟨hk key List.mem_cons_self, by show 1 ≤ c; omega, by show c ≤ B + 10 ^ 27; omega⟩
    · rw [cntP_app, hc, Bool.true_and, decide_eq_true_iff]
      exact c0
    · refine h f1 o2 m x5 x6 ?_ (fun p hq => ?_) (by rw [g5, List.length_append, List.length_singleton, List.length_cons]; omega) g6
      · rw [List.length_cons]
        have e : n + (ks.length + 1) = n + 1 + ks.length := by omega
        rw [e]
        exact g3
      · have := g4 p hq
        refine ⟨this.1, this.2.1, ?_⟩
        rw [List.length_cons]
        omega
theorem good_cnt {ps : List (Str × Int)} (h : ∀ p ∈ ps, isKey p.1 = true) (hc : cntP [] ps = true) : good 1 (.nd .lst (ps.map cntD)) = true := by
  show cntOk [] (ps.map cntD) = true
  rw [cntOk_map ps [] h, hc]
theorem p__law_counted : PureV 2 7 [0] (r__law_counted G) (sp__law_counted G) := by
  intro os φ ε h _
  obtain ⟨n, o, ks, rfl, hs, hn, hkl, hkk, hk⟩ := h
  have e2 : sizeLine = 16777216 := by decide +kernel
  have hk0 := hs.kill
  obtain ⟨dd, e⟩ := hs.own
  subst e
  simp [r__law_counted, outsOf, x_killAll, gNew, isBor, mkLst, shL]
  refine ⟨by decide +kernel, by decide +kernel, by omega, draw_of G hs (by omega) (by omega) (by omega) fun r o' g0 g1 hs' => ?_⟩
  have hk1 := hs'.kill
  have go : ∀ step : Int, 0 < step → step ≤ 10 ^ 27 → vForL (vgName 5) (s__law_counted_0 G) (ks.map strD) [o', .sh (.nd .lst (ks.map strD)), .ow .lst [], .ow (.dk []) [], .sh (.sc (.int step)), .top, .top] { nx := fun ρ1 => mvO (envAt ρ1 2) fun o => φ o [envAt (ρ1.set 2 .top) 0], rt := fun o ρ => φ o [envAt ρ 0] } fun e ρ => ε e [envAt ρ 0] := by
    intro step h1 h2
    refine loop_cntd G rfl h1 h2 ks (n + 1) o' _ _ [] 0 hs' (by omega) (Nat.le_refl _) (by simpa using hkl) hkk (fun x => by simp [mapOf, lk]) (fun p hp => by cases hp) rfl fun f1 o2 m x5 x6 q1 q2 q3 q4 => ?_
    have h5 : f1.length = ks.length := by simpa using q3
    simp [envAt]
    refine hk f1 o2 (good_cnt (fun p hp => (q2 p hp).1) q4) h5 (fun p hp => ⟨(q2 p hp).2.1, ?_⟩) q1
    have := (q2 p hp).2.2
    have h6 : (10 : Int) ^ 27 * (ks.length : Nat) ≤ 10 ^ 27 * 200 := by omega
    omega
  obtain ⟨q, rfl⟩ : ∃ q : Nat, r = q := ⟨r.toNat, by omega⟩
  match q, g1 with
  | 0, _ => simpa [atI, ixN, mvO, hk1, outsOf] using go 1 (by decide) (by decide)
  | 1, _ => simpa [atI, ixN, mvO, hk1, outsOf] using go 2 (by decide) (by decide)
  | 2, _ => simpa [atI, ixN, mvO, hk1, outsOf] using go 1000000000 (by decide) (by decide)
  | 3, _ => simpa [atI, ixN, mvO, hk1, outsOf] using go 1000000000000000000000000000 (by decide) (by decide)
  | q + 4, g1 => exfalso; omega
end
end VL.L59

namespace VL.L59
open PySem PySem.Spec L2 SX
section
variable {K : PySem.W.Frag} {mg : Str → Option Value} (G : Gx K mg)
theorem law_text_of {kind : Nat} {d : D} {φ : O → List O → Prop} {ε : Exc → List O → Prop} (hk : kind < 3) (h : Gd kind d) (hp : φ (.sh (strD (textOf d))) []) : sp__law_text G [.sh (.sc (.int (kind : Nat))), .sh d] φ ε := ⟨kind, d, rfl, hk, h, hp⟩
theorem law_written_of {kind : Nat} {d : D} {φ : O → List O → Prop} {ε : Exc → List O → Prop} (hk : kind < 3) (h : Gd kind d) (hp : φ (.sh (strD (textOf d))) []) : sp__law_written G [.sh (.sc (.int (kind : Nat))), .sh d] φ ε := ⟨kind, d, rfl, hk, h, hp⟩
theorem law_read_of {kind : Nat} {ds : List D} {φ : O → List O → Prop} {ε : Exc → List O → Prop} (hk : kind < 3) (h : Gd kind (.nd .lst ds)) (hp : φ (.ow .lst ds) []) : sp__law_read G [.sh (.sc (.int (kind : Nat))), .sh (strD (textOf (.nd .lst ds)))] φ ε := ⟨kind, ds, rfl, hk, h, hp⟩
theorem str_shn {x : Str} (h : x.length ≤ 88000) (hd : Dr 42 x) : ∃ p, toPyD (strD x) = some p ∧ p.showable = true ∧ p.depth ≤ 60 ∧ p.shown.length ≤ sizeLine := by
  have ok : PyData.strOk x = true := by
    unfold PyData.strOk
    rw [← Array.all_toList, List.all_eq_true]
    exact fun c hc => decide_eq_true (hd.1 c hc)
  have e2 : sizeLine = 16777216 := by decide +kernel
  obtain ⟨h1, _, h3, h4⟩ := Shw.str (k := 0) ok h
  exact ⟨.str x, rfl, h1, by omega, by omega⟩
theorem eq_strs {x : Str} {neg : Bool} {k : O → Prop} (h : k (.sh (.sc (.bl (nb neg true))))) : gEq neg (.sh (.sc (.str x))) (.sh (.sc (.str x))) k := by
  cases neg <;> simpa [nb] using h
abbrev envR (kind : Nat) (ds : List D) (p : PyData) (x4 x5 : O) : VL.Env := [.sh (.sc (.int (kind : Nat))), .sh (.nd .lst ds), .sh (.sc (.str p.shown)), .sh (strD (textOf (.nd .lst ds))), x4, x5]
theorem st_right {kind : Nat} {ds : List D} {p : PyData} {k : VK} {ε : XP} {x4 x5 : O} (hk3 : kind < 3) (hg : Gd kind (.nd .lst ds)) (hp : toPyD (.nd .lst ds) = some p) (hs : p.showable = true ∧ p.depth ≤ 60 ∧ p.shown.length ≤ sizeLine) (hl : ds.length ≤ 2000) (h4 : kill x4 = x4) (h5 : kill x5 = x5) (h : ∀ x5, kill x5 = x5 → k.nx (envR kind ds p x4 x5)) :
    s__law_right_2 G (envR kind ds p x4 x5) k ε := by
  have e2 : sizeLine = 16777216 := by decide +kernel
  simp [s__law_right_2, s__law_right_1, x_killAll]
  refine law_read_of G hk3 hg ?_
  simp
  refine reprD_of (d := .nd .lst ds) rfl hp hs ?_
  simp [h4]
  exact ⟨by omega, h _ rfl⟩
theorem loop_right {kind : Nat} {ds : List D} {p : PyData} {k : VK} {ε : XP} (hk3 : kind < 3) (hg : Gd kind (.nd .lst ds)) (hp : toPyD (.nd .lst ds) = some p) (hs : p.showable = true ∧ p.depth ≤ 60 ∧ p.shown.length ≤ sizeLine) (hl : ds.length ≤ 2000) : ∀ (is : List Int) (x4 x5 : O), kill x5 = x5 → (∀ x4 x5, k.nx (envR kind ds p x4 x5)) →
    vForL (vgName 4) (s__law_right_2 G) (is.map fun i => D.sc (.int i)) (envR kind ds p x4 x5) k ε
  | [], x4, x5, h5, h => h _ _
  | i :: is, x4, x5, h5, h => by
    simp only [List.map_cons, vForL, x_gName, List.set_cons_succ, List.set_cons_zero]
    exact st_right G hk3 hg hp hs hl rfl h5 fun x5 g5 => loop_right hk3 hg hp hs hl is _ _ g5 h
theorem p__law_right : PureV 2 6 [] (r__law_right G) (sp__law_right G) := by
  intro os φ ε h _
  obtain ⟨kind, d, rfl, hk3, hg, hk⟩ := h
  have e2 : sizeLine = 16777216 := by decide +kernel
  obtain ⟨ds, rfl⟩ := good_lst hg.2
  obtain ⟨p, hp, hs⟩ := vald_shn hg.1
  obtain ⟨t1, t2, t3⟩ := text_good hk3 hg.1 hg.2
  obtain ⟨q, hq, hqs⟩ := str_shn t1 t2
  simp [r__law_right, s__law_right_0, outsOf, x_killAll]
  refine reprD_of (d := .nd .lst ds) rfl hp hs ?_
  refine law_text_of G hk3 hg (law_written_of G hk3 hg ?_)
  refine reprD_of (d := strD (textOf (.nd .lst ds))) rfl hq hqs ?_
  refine reprD_of (d := strD (textOf (.nd .lst ds))) rfl hq hqs ?_
  refine eq_strs ?_
  simp [nb]
  refine reprD_of (d := .nd .lst ds) rfl hp hs ?_
  refine eq_strs ?_
  simp [nb]
  have e3 : intsD 0 1 2 = ([0, 1] : List Int).map fun i => D.sc (.int i) := rfl
  rw [e3]
  exact loop_right G hk3 hg hp hs (vald_lst hg.1).1 _ _ _ rfl fun x4 x5 => hk
theorem law_right_of {kind : Nat} {d : D} {φ : O → List O → Prop} {ε : Exc → List O → Prop} (hk : kind < 3) (h : Gd kind d) (hp : φ (.sh (.sc (.bl true))) []) : sp__law_right G [.sh (.sc (.int (kind : Nat))), .sh d] φ ε := ⟨kind, d, rfl, hk, h, hp⟩
end
end VL.L59

namespace VL.L59
open PySem PySem.Spec L2 SX
section
variable {K : PySem.W.Frag} {mg : Str → Option Value} (G : Gx K mg)
theorem st_k0 {k : VK} {ε : XP} {x0 x1 x2 x3 x4 x5 x6 x7 x11 : O} {X Y : O} {a : Addr} {la : List D}  (g : Gd 0 (.nd .lst la)) (h : ∀ b, k.nx [x0, x1, x2, x3, x4, x5, x6, x7, .nm a (.ow .lst la), .nm b (.dp .lst [.al a [8], X, Y]), .sh (.sc (.int 0)), x11]) :
    s_law_0 G [x0, x1, x2, x3, x4, x5, x6, x7, .nm a (.ow .lst la), .dp .lst [.al a [8], X, Y], .sh (.sc (.int 0)), x11] k ε := by
  simp [s_law_0]
  intro b
  simp [getP, getO, labO, ixN, stepK, argA, fz, setP, setO, kidsO]
  simp [lendP, getP, getO, mutO, mutL, vw, view, clO, clOs, clD, x_killAll, setP, setO, kidsO]
  exact law_right_of G (kind := 0) (by decide) g (by simpa [clO, clOs, clD] using h b)
theorem st_k1 {k : VK} {ε : XP} {x0 x1 x2 x3 x4 x5 x6 x7 x11 : O} {Y : O} {a : Addr} {la lb : List D} {b : Addr} (g : Gd 1 (.nd .lst lb)) (h : ∀ b1, k.nx [x0, x1, x2, x3, x4, x5, x6, x7, .nm a (.ow .lst la), .nm b (.dp .lst [.al a [8], .nm b1 (.ow .lst lb), Y]), .sh (.sc (.int 1)), x11]) :
    s_law_0 G [x0, x1, x2, x3, x4, x5, x6, x7, .nm a (.ow .lst la), .nm b (.dp .lst [.al a [8], .ow .lst lb, Y]), .sh (.sc (.int 1)), x11] k ε := by
  simp [s_law_0]
  simp [getP, getO, labO, ixN, stepK, argA, fz, setP, setO, kidsO]
  intro b1
  simp [lendP, getP, getO, mutO, mutL, vw, view, clO, clOs, clD, x_killAll, setP, setO, kidsO]
  exact law_right_of G (kind := 1) (by decide) g (by simpa [clO, clOs, clD] using h b1)
theorem st_k2 {k : VK} {ε : XP} {x0 x1 x2 x3 x4 x5 x6 x7 x11 : O} {X : O} {a : Addr} {la lc : List D} {b : Addr} (g : Gd 2 (.nd .lst lc)) (h : ∀ b2, k.nx [x0, x1, x2, x3, x4, x5, x6, x7, .nm a (.ow .lst la), .nm b (.dp .lst [.al a [8], X, .nm b2 (.ow .lst lc)]), .sh (.sc (.int 2)), x11]) :
    s_law_0 G [x0, x1, x2, x3, x4, x5, x6, x7, .nm a (.ow .lst la), .nm b (.dp .lst [.al a [8], X, .ow .lst lc]), .sh (.sc (.int 2)), x11] k ε := by
  simp [s_law_0]
  simp [getP, getO, labO, ixN, stepK, argA, fz, setP, setO, kidsO]
  intro b2
  simp [lendP, getP, getO, mutO, mutL, vw, view, clO, clOs, clD, x_killAll, setP, setO, kidsO]
  exact law_right_of G (kind := 2) (by decide) g (by simpa [clO, clOs, clD] using h b2)
theorem st_j0 {k : VK} {ε : XP} {x0 x1 x2 x3 x4 x5 x6 x7 x11 : O} {X Y : O} {a : Addr} {la : List D} {b : Addr} (g : Gd 0 (.nd .lst la)) (h : k.nx [x0, x1, x2, x3, x4, x5, x6, x7, .nm a (.ow .lst la), .nm b (.dp .lst [.al a [8], X, Y]), .sh (.sc (.int 0)), x11]) :
    s_law_2 G [x0, x1, x2, x3, x4, x5, x6, x7, .nm a (.ow .lst la), .nm b (.dp .lst [.al a [8], X, Y]), .sh (.sc (.int 0)), x11] k ε := by
  simp [s_law_2]
  simp [getP, getO, labO, ixN, stepK, argA, fz, setP, setO, kidsO]
  simp [lendP, getP, getO, mutO, mutL, vw, view, clO, clOs, clD, x_killAll, setP, setO, kidsO]
  exact law_right_of G (kind := 0) (by decide) g (by simpa [clO, clOs, clD] using h)
theorem st_j1 {k : VK} {ε : XP} {x0 x1 x2 x3 x4 x5 x6 x7 x11 : O} {Y : O} {a : Addr} {la lb : List D} {b b1 : Addr} (g : Gd 1 (.nd .lst lb)) (h : k.nx [x0, x1, x2, x3, x4, x5, x6, x7, .nm a (.ow .lst la), .nm b (.dp .lst [.al a [8], .nm b1 (.ow .lst lb), Y]), .sh (.sc (.int 1)), x11]) :
    s_law_2 G [x0, x1, x2, x3, x4, x5, x6, x7, .nm a (.ow .lst la), .nm b (.dp .lst [.al a [8], .nm b1 (.ow .lst lb), Y]), .sh (.sc (.int 1)), x11] k ε := by
  simp [s_law_2]
  simp [getP, getO, labO, ixN, stepK, argA, fz, setP, setO, kidsO]
  simp [lendP, getP, getO, mutO, mutL, vw, view, clO, clOs, clD, x_killAll, setP, setO, kidsO]
  exact law_right_of G (kind := 1) (by decide) g (by simpa [clO, clOs, clD] using h)
theorem st_j2 {k : VK} {ε : XP} {x0 x1 x2 x3 x4 x5 x6 x7 x11 : O} {X : O} {a : Addr} {la lc : List D} {b b2 : Addr} (g : Gd 2 (.nd .lst lc)) (h : k.nx [x0, x1, x2, x3, x4, x5, x6, x7, .nm a (.ow .lst la), .nm b (.dp .lst [.al a [8], X, .nm b2 (.ow .lst lc)]), .sh (.sc (.int 2)), x11]) :
    s_law_2 G [x0, x1, x2, x3, x4, x5, x6, x7, .nm a (.ow .lst la), .nm b (.dp .lst [.al a [8], X, .nm b2 (.ow .lst lc)]), .sh (.sc (.int 2)), x11] k ε := by
  simp [s_law_2]
  simp [getP, getO, labO, ixN, stepK, argA, fz, setP, setO, kidsO]
  simp [lendP, getP, getO, mutO, mutL, vw, view, clO, clOs, clD, x_killAll, setP, setO, kidsO]
  exact law_right_of G (kind := 2) (by decide) g (by simpa [clO, clOs, clD] using h)
theorem kinds0 {k : VK} {ε : XP} {x0 x1 x2 x3 x4 x5 x6 x7 x10 x11 : O} {a : Addr} {la lb lc : List D} (ga : Gd 0 (.nd .lst la)) (gb : Gd 1 (.nd .lst lb)) (gc : Gd 2 (.nd .lst lc))
    (h : ∀ b b1 b2, k.nx [x0, x1, x2, x3, x4, x5, x6, x7, .nm a (.ow .lst la), .nm b (.dp .lst [.al a [8], .nm b1 (.ow .lst lb), .nm b2 (.ow .lst lc)]), .sh (.sc (.int 2)), x11]) :
    vForL (vgName 10) (s_law_0 G) (intsD 0 1 3) [x0, x1, x2, x3, x4, x5, x6, x7, .nm a (.ow .lst la), .dp .lst [.al a [8], .ow .lst lb, .ow .lst lc], x10, x11] k ε := by
  show vForL (vgName 10) (s_law_0 G) [.sc (.int 0), .sc (.int 1), .sc (.int 2)] _ k ε
  simp only [vForL, x_gName, List.set_cons_succ, List.set_cons_zero]
  exact st_k0 G ga fun b => st_k1 G gb fun b1 => st_k2 G gc fun b2 => h b b1 b2
theorem kinds1 {k : VK} {ε : XP} {x0 x1 x2 x3 x4 x5 x6 x7 x10 x11 : O} {a b b1 b2 : Addr} {la lb lc : List D} (ga : Gd 0 (.nd .lst la)) (gb : Gd 1 (.nd .lst lb)) (gc : Gd 2 (.nd .lst lc))
    (h : k.nx [x0, x1, x2, x3, x4, x5, x6, x7, .nm a (.ow .lst la), .nm b (.dp .lst [.al a [8], .nm b1 (.ow .lst lb), .nm b2 (.ow .lst lc)]), .sh (.sc (.int 2)), x11]) :
    vForL (vgName 10) (s_law_2 G) (intsD 0 1 3) [x0, x1, x2, x3, x4, x5, x6, x7, .nm a (.ow .lst la), .nm b (.dp .lst [.al a [8], .nm b1 (.ow .lst lb), .nm b2 (.ow .lst lc)]), x10, x11] k ε := by
  show vForL (vgName 10) (s_law_2 G) [.sc (.int 0), .sc (.int 1), .sc (.int 2)] _ k ε
  simp only [vForL, x_gName, List.set_cons_succ, List.set_cons_zero]
  exact st_j0 G ga (st_j1 G gb (st_j2 G gc h))
theorem ne_nil {α : Type} {n : Nat} {f : α → D} {g : α → PyData} {xs : List α} {k : O → Prop} {b : Addr} (hn : n + 1 ≤ 64) (h : ∀ x ∈ xs, Dat n (f x) (g x)) (hk : k (.sh (.sc (.bl (decide (xs ≠ [])))))) : gEq true (.bor (.nm b (.ow .lst (xs.map f)))) (.ow .lst []) k := by
  refine eq_dat (d := .nd .lst (xs.map f)) (e := .nd .lst []) (by simp [view]) rfl (Dat.list h) (Dat.nil (n := n)) hn hn (fun s t e => by cases e) ?_
  have e : PyData.eqv (.list (xs.map g)) (.list []) = decide (xs = []) := by
    cases xs <;> simp [PyData.eqv, PyData.eqvAll]
  rw [e]
  simpa [nb] using hk
theorem st_pop1 {α : Type} {n : Nat} {f : α → D} {g : α → PyData} {xs : List α} {k : VK} {ε : XP} {x0 x1 x2 x3 x4 x5 x6 x7 x10 Y : O} {a b b1 : Addr} {la : List D} (hn : n + 1 ≤ 64) (hx : ∀ x ∈ xs, Dat n (f x) (g x))
    (hK : kill x0 = x0 ∧ kill x1 = x1 ∧ kill x2 = x2 ∧ kill x3 = x3 ∧ kill x4 = x4 ∧ kill x5 = x5 ∧ kill x6 = x6 ∧ kill x7 = x7 ∧ kill x10 = x10)
    (h : k.nx [x0, x1, x2, x3, x4, x5, x6, x7, .nm a (.ow .lst la), .nm b (.dp .lst [.al a [8], .nm b1 (.ow .lst (xs.dropLast.map f)), Y]), x10, .al b1 [9, 1]]) :
    s_law_1 G [x0, x1, x2, x3, x4, x5, x6, x7, .nm a (.ow .lst la), .nm b (.dp .lst [.al a [8], .nm b1 (.ow .lst (xs.map f)), Y]), x10, .al b1 [9, 1]] k ε := by
  obtain ⟨h0, h1, h2, h3, h4, h5, h6, h7, h10⟩ := hK
  simp [s_law_1, gNew, isBor, mkLst, shL, getP, getO, kidsO]
  refine ne_nil hn hx ?_
  by_cases e : xs = []
  · subst e
    simpa using h
  · obtain ⟨x, xs', rfl⟩ : ∃ ys y, xs = ys ++ [y] := ⟨xs.dropLast, xs.getLast e, (List.dropLast_concat_getLast e).symm⟩
    simp [getP, getO, kidsO, ownT, mPop, putP, setP, setO, setKid, h0, h1, h2, h3, h4, h5, h6, h7, h10, isBor]
    simpa using h
theorem st_pop2 {α : Type} {n : Nat} {f : α → D} {g : α → PyData} {xs : List α} {k : VK} {ε : XP} {x0 x1 x2 x3 x4 x5 x6 x7 x10 X : O} {a b b1 : Addr} {la : List D} (hn : n + 1 ≤ 64) (hx : ∀ x ∈ xs, Dat n (f x) (g x))
    (hK : kill x0 = x0 ∧ kill x1 = x1 ∧ kill x2 = x2 ∧ kill x3 = x3 ∧ kill x4 = x4 ∧ kill x5 = x5 ∧ kill x6 = x6 ∧ kill x7 = x7 ∧ kill x10 = x10)
    (h : k.nx [x0, x1, x2, x3, x4, x5, x6, x7, .nm a (.ow .lst la), .nm b (.dp .lst [.al a [8], X, .nm b1 (.ow .lst (xs.dropLast.map f))]), x10, .al b1 [9, 2]]) :
    s_law_1 G [x0, x1, x2, x3, x4, x5, x6, x7, .nm a (.ow .lst la), .nm b (.dp .lst [.al a [8], X, .nm b1 (.ow .lst (xs.map f))]), x10, .al b1 [9, 2]] k ε := by
  obtain ⟨h0, h1, h2, h3, h4, h5, h6, h7, h10⟩ := hK
  simp [s_law_1, gNew, isBor, mkLst, shL, getP, getO, kidsO]
  refine ne_nil hn hx ?_
  by_cases e : xs = []
  · subst e
    simpa using h
  · obtain ⟨x, xs', rfl⟩ : ∃ ys y, xs = ys ++ [y] := ⟨xs.dropLast, xs.getLast e, (List.dropLast_concat_getLast e).symm⟩
    simp [getP, getO, kidsO, ownT, mPop, putP, setP, setO, setKid, h0, h1, h2, h3, h4, h5, h6, h7, h10, isBor]
    simpa using h
end
end VL.L59

namespace VL.L59
open PySem PySem.Spec L2 SX
section
def chdB (c : D) : Bool := (tyName c).isSome && (match c with
  | .sc (.str x) => decide (x.length ≤ 12) && PyData.strOk x
  | .sc (.int i) => decide (i < 10 ^ 30)
  | _ => true)
theorem chdB_ok {c : D} (h : chdB c = true) : Chd c := by
  unfold chdB at h
  rw [Bool.and_eq_true] at h
  refine ⟨h.1, fun x e => ?_, fun i e => ?_⟩
  · subst e
    have h2 : (decide (x.length ≤ 12) && PyData.strOk x) = true := h.2
    rw [Bool.and_eq_true, decide_eq_true_iff] at h2
    exact h2
  · subst e
    exact of_decide_eq_true h.2
theorem chd_key {k : Str} (h : isKey k = true) : Chd (strD k) := ⟨rfl, fun x e => by cases e; exact ⟨(isKey_len h).2, isKey_ok h⟩, fun i e => by cases e⟩
theorem chd_lit {c : D} (h : chdB c = true) : Chd c := chdB_ok h
theorem key_shw {k : Str} (h : isKey k = true) : Shw 5 122 (.str k) := Shw.str (m := 12) (isKey_ok h) (isKey_len h).2
theorem chd_lit_tup (ds : List D) : Chd (.nd .tup ds) := ⟨rfl, fun x e => (by cases e), fun i e => (by cases e)⟩
def cntPy (k : Str) (n : Nat) : PyData := .tuple [.str k, .int (n : Nat)]
theorem shw_cnt {k : Str} {n : Nat} (hk : isKey k = true) (hn : n < 10 ^ 30) : Shw 6 300 (cntPy k n) := by
  refine (Shw.tupleN (k := 5) (m := 122) (ps := [.str k, .int (n : Nat)]) fun p hp => ?_).le (by decide) (show 2 * (122 + 2) + 3 ≤ 300 by decide)
  rcases List.mem_cons.mp hp with e | hp
  · subst e
    exact key_shw hk
  · rw [List.mem_singleton.mp hp]
    exact (Shw.nat (m := 30) (by decide) hn (Nat.lt_of_lt_of_le hn (by decide +kernel))).le (Nat.le_refl _) (by decide)
def evPy : Option Str → PyData
  | none => .tuple [.str (Str.ofString "send")]
  | some k => .tuple [.str (Str.ofString "write"), .str k]
theorem shw_ev {e : Option Str} (h : ∀ k, e = some k → isKey k = true) : Shw 6 300 (evPy e) := by
  have hs5 : Shw 5 122 (.str (Str.ofString "send")) := Shw.str (m := 12) (by decide +kernel) (by decide +kernel)
  have hw5 : Shw 5 122 (.str (Str.ofString "write")) := Shw.str (m := 12) (by decide +kernel) (by decide +kernel)
  cases e with
  | none => exact (Shw.tupleN (k := 5) (m := 122) (ps := [.str (Str.ofString "send")]) fun p hp => by rw [List.mem_singleton.mp hp]; exact hs5).le (by decide) (show 1 * (122 + 2) + 3 ≤ 300 by decide)
  | some k =>
    refine (Shw.tupleN (k := 5) (m := 122) (ps := [.str (Str.ofString "write"), .str k]) fun p hp => ?_).le (by decide) (show 2 * (122 + 2) + 3 ≤ 300 by decide)
    rcases List.mem_cons.mp hp with e | hp
    · subst e; exact hw5
    · rw [List.mem_singleton.mp hp]; exact key_shw (h k rfl)
theorem shn_of {d : D} {p : PyData} {k n : Nat} (h : toPyD d = some p) (hs : Shw k n p) (hk : k ≤ 10) : Shn n d := ⟨p, h, hs.1, Nat.le_trans hs.2.2.1 hk, hs.2.2.2⟩
theorem itm_key {k : Str} (hk : isKey k = true) : Itm (strD k) := ⟨chd_key hk, shn_of rfl ((key_shw hk).le (Nat.le_refl _) (by decide)) (by decide), fun ds e => by cases e⟩
theorem dat_cnt {p : Str × Int} (hk : isKey p.1 = true) : ∃ q, Dat 5 (cntD p) q := ⟨_, Dat.tup2 (Dat.str (isKey_ok hk)) Dat.int⟩
theorem itm_cnt {p : Str × Int} (hk : isKey p.1 = true) (h0 : 1 ≤ p.2) (h1 : p.2 < 10 ^ 30) : Itm (cntD p) := by
  obtain ⟨k, n⟩ := p
  obtain ⟨m, e, hm⟩ := nat_of h0 h1
  have e' : n = (m : Nat) := e
  subst e'
  have hk' : isKey k = true := hk
  refine ⟨chd_lit_tup _, shn_of (p := cntPy k m) rfl (shw_cnt hk' hm) (by decide), fun ds e => ?_⟩
  cases e
  refine ⟨fun c hc => ?_, by simp, fun x cs e => ?_⟩
  · rcases List.mem_cons.mp hc with e | hc
    · rw [e]; exact chd_key hk'
    · rw [List.mem_singleton.mp hc]
      exact ⟨rfl, fun x e => (by cases e), fun i e => (by cases e; show ((m : Nat) : Int) < 10 ^ 30; omega)⟩
  · cases e
    exact ⟨_, Dat.tup2 (Dat.str (isKey_ok hk')) Dat.int⟩
theorem itm_ev {e : Option Str} (he : ∀ k, e = some k → isKey k = true) : Itm (evD e) := by
  refine ⟨?_, shn_of (p := evPy e) (by cases e <;> rfl) (shw_ev he) (by decide), fun ds e2 => ?_⟩
  · cases e <;> exact chd_lit_tup _
  · cases e with
    | none =>
      cases e2
      refine ⟨fun c hc => ?_, by simp, fun x cs e => ⟨_, send_dat⟩⟩
      rw [List.mem_singleton.mp hc]
      exact chdB_ok (by decide +kernel)
    | some k =>
      cases e2
      refine ⟨fun c hc => ?_, by simp, fun x cs e => ⟨_, Dat.tup2 (Dat.str (n := 4) (by decide +kernel)) (Dat.str (isKey_ok (he k rfl)))⟩⟩
      rcases List.mem_cons.mp hc with e | hc
      · rw [e]; exact chdB_ok (by decide +kernel)
      · rw [List.mem_singleton.mp hc]; exact chd_key (he k rfl)
theorem vald_of {α : Type} {f : α → D} {xs : List α} (hl : xs.length ≤ 2000) (h : ∀ x ∈ xs, Itm (f x)) : Vald (.nd .lst (xs.map f)) := .inl ⟨_, rfl, by rwa [List.length_map], fun c hc => by
  obtain ⟨x, hx, rfl⟩ := List.mem_map.mp hc
  exact h x hx⟩
theorem gd_log {ls : List Str} (hl : ls.length ≤ 2000) (h : ∀ k ∈ ls, isKey k = true) : Gd 0 (.nd .lst (ls.map strD)) :=
  ⟨vald_of hl fun x hx => itm_key (h x hx), by
    show (ls.map strD).all isKeyD = true
    rw [List.all_map, List.all_eq_true]
    exact h⟩
theorem gd_cnt {ps : List (Str × Int)} (hl : ps.length ≤ 2000) (h : ∀ p ∈ ps, isKey p.1 = true ∧ 1 ≤ p.2 ∧ p.2 < 10 ^ 30) (hc : cntP [] ps = true) : Gd 1 (.nd .lst (ps.map cntD)) :=
  ⟨vald_of hl fun p hp => itm_cnt (h p hp).1 (h p hp).2.1 (h p hp).2.2, good_cnt (fun p hp => (h p hp).1) hc⟩
theorem cntP_drop {ps : List (Str × Int)} (hc : cntP [] ps = true) : cntP [] ps.dropLast = true := by
  by_cases e : ps = []
  · subst e; exact hc
  · have h2 : ps = ps.dropLast ++ [ps.getLast e] := (List.dropLast_concat_getLast e).symm
    rw [h2, cntP_app, Bool.and_eq_true] at hc
    exact hc.1
theorem runB_of : ∀ {es : List (Option Str)} {q : List Str}, runOk q es → runOkB q es = true
  | [], _, _ => rfl
  | some k :: es, q, h => runB_of (es := es) h
  | none :: es, q, h => by
    have h' : q ≠ [] ∧ runOk q.tail es := h
    show (decide (q ≠ []) && runOkB q.tail es) = true
    rw [decide_eq_true h'.1, runB_of h'.2]
    rfl
theorem runB_app : ∀ {es : List (Option Str)} {q : List Str} {e : Option Str}, runOkB q (es ++ [e]) = true → runOkB q es = true
  | [], _, _, _ => rfl
  | some k :: es, q, e, h => runB_app (es := es) h
  | none :: es, q, e, h => by
    have h' : (decide (q ≠ []) && runOkB q.tail (es ++ [e])) = true := h
    rw [Bool.and_eq_true] at h'
    show (decide (q ≠ []) && runOkB q.tail es) = true
    rw [h'.1, runB_app h'.2]
    rfl
theorem run_drop {es : List (Option Str)} (h : runOkB [] es = true) : runOkB [] es.dropLast = true := by
  by_cases e : es = []
  · subst e; exact h
  · have h2 : es = es.dropLast ++ [es.getLast e] := (List.dropLast_concat_getLast e).symm
    rw [h2] at h
    exact runB_app h
theorem gd_run {es : List (Option Str)} (hl : es.length ≤ 2000) (h : ∀ k, some k ∈ es → isKey k = true) (hc : runOkB [] es = true) : Gd 2 (.nd .lst (es.map evD)) := by
  refine ⟨vald_of hl fun e he => itm_ev fun k hk => h k (hk ▸ he), ?_⟩
  show (match evs (es.map evD) with
    | some es => runOkB [] es
    | none => false) = true
  have e : evs (es.map evD) = some es := by
    clear hc hl
    induction es with
    | nil => rfl
    | cons e es ih =>
      rw [List.map_cons, evs, asEv_evD fun k hk => h k (hk ▸ List.mem_cons_self), ih fun k hk => h k (List.mem_cons_of_mem _ hk)]
  rw [e]
  exact hc
end
end VL.L59

namespace VL.L59
open PySem PySem.Spec L2 SX
section
variable {K : PySem.W.Frag} {mg : Str → Option Value} (G : Gx K mg)
theorem cntD_inj {p q : Str × Int} (h : cntD p = cntD q) : p = q := by
  obtain ⟨a, b⟩ := p
  obtain ⟨c, d⟩ := q
  unfold cntD strD at h
  injection h with h1 h2
  injection h2 with h3 h4
  injection h4 with h5 h6
  injection h3 with h3
  injection h5 with h5
  injection h3 with h3
  injection h5 with h5
  have h3' : a = c := h3
  have h5' : b = d := h5
  rw [h3', h5']
theorem Src.cl {n : Nat} {o : O} (h : Src n o) : clO o = true := by obtain ⟨a, b, c, rfl, _⟩ := h; rfl
theorem cl_cnt : ∀ (ps : List (Str × Int)), clDs (ps.map cntD) = true
  | [] => rfl
  | p :: ps => by
    show (clD (cntD p) && clDs (ps.map cntD)) = true
    rw [cl_cnt ps]
    rfl
theorem counted_of {n : Nat} {o : O} {ks : List Str} {φ : O → List O → Prop} {ε : Exc → List O → Prop} (hs : Src n o) (hn : n < 2 ^ 80) (hl : ks.length ≤ 200) (hk : ∀ k ∈ ks, isKey k = true)
    (h : ∀ (ps : List (Str × Int)) o', cntP [] ps = true → ps.length = ks.length → (∀ p ∈ ps, isKey p.1 = true ∧ 1 ≤ p.2 ∧ p.2 < 10 ^ 30) → Src (n + 1 + ks.length) o' → φ (.ow .lst (ps.map cntD)) [o']) : sp__law_counted G [o, .sh (.nd .lst (ks.map strD))] φ ε := by
  refine ⟨n, o, ks, rfl, hs, hn, hl, hk, fun ps o' hg hl2 hp hs' => ?_⟩
  obtain ⟨ps', e, h1, h2⟩ := good1 hg
  have e' : ps = ps' := (List.map_inj_right fun x y h => cntD_inj h).mp e
  subst e'
  exact h ps o' h2 hl2 (fun p hq => ⟨(h1 p hq).1, hp p hq⟩) hs'
theorem keys_of' {n : Nat} {o : O} {l : Int} {φ : O → List O → Prop} {ε : Exc → List O → Prop} (hs : Src n o) (hn : n < 2 ^ 90) (h0 : 0 ≤ l) (h1 : l ≤ 215)
    (h : ∀ (ks : List Str) o', ks.length = l.toNat → (∀ k ∈ ks, isKey k = true) → Src (n + l.toNat) o' → φ (.ow .lst (ks.map strD)) [o']) : sp__law_keys G [o, .sh (.sc (.int l))] φ ε := ⟨n, o, l, rfl, hs, hn, h0, h1, h⟩
abbrev K11 (x5 x6 x7 x8 x9 x10 x11 : O) : Prop := kill x5 = x5 ∧ kill x6 = x6 ∧ kill x7 = x7 ∧ kill x8 = x8 ∧ kill x9 = x9 ∧ kill x10 = x10 ∧ kill x11 = x11
theorem st_turn {k : VK} {ε : XP} {s x5 x6 x7 x8 x9 x10 x11 kO o : O} {i t : Int} {ks : List Str} {n : Nat} (h0 : kill s = s) (hx : K11 x5 x6 x7 x8 x9 x10 x11)
    (hs : Src n o) (hn : n < 2 ^ 60) (hkO : kO = .sh (.nd .lst (ks.map strD)) ∨ kO = .ow .lst (ks.map strD)) (hks : ks ≠ []) (hkl : ks.length ≤ 2 ^ 10) (hok : ∀ k ∈ ks, isKey k = true)
    (h : ∀ kO x5 x6 x7 x8 x9 x10 x11 o', (kO = .sh (.nd .lst (ks.map strD)) ∨ kO = .ow .lst (ks.map strD)) → K11 x5 x6 x7 x8 x9 x10 x11 → Src (n + 10000) o' → k.nx [s, .sh (.sc (.int i)), o', kO, .sh (.sc (.int t)), x5, x6, x7, x8, x9, x10, x11]) :
    s_law_3 G [s, .sh (.sc (.int i)), o, kO, .sh (.sc (.int t)), x5, x6, x7, x8, x9, x10, x11] k ε := by
  obtain ⟨h5, h6, h7, h8, h9, h10, h11⟩ := hx
  have e2 : sizeLine = 16777216 := by decide +kernel
  have hk0 := hs.kill
  have hkk : VL.kill kO = kO := by rcases hkO with e | e <;> subst e <;> rfl
  have hfr : ∀ {P : D → Prop}, P (.nd .lst (ks.map strD)) → frD kO P := by
    intro P hP
    rcases hkO with e | e <;> subst e <;> exact hP
  obtain ⟨dd, e⟩ := hs.own
  subst e
  unfold s_law_3
  generalize hT : (vSeq (vSet 7 _) _ : VS) = T
  have tail : ∀ (mo ma : Int) (o' : O), 0 ≤ mo → mo ≤ 200 → 0 ≤ ma → ma ≤ 1000 → Src (n + 1) o' → T [s, .sh (.sc (.int i)), o', kO, .sh (.sc (.int t)), .sh (.sc (.int mo)), .sh (.sc (.int ma)), x7, x8, x9, x10, x11] k ε := by
    intro mo ma o1 m0 m1 m2 m3 hs1
    have hk1 := hs1.kill
    obtain ⟨d1, e⟩ := hs1.own
    subst e
    subst hT
    generalize hT : (vSeq (vSet 8 _) _ : VS) = T
    have tail2 : ∀ (m : Nat) (o' kO : O) (js : List Str), (kO = .sh (.nd .lst (ks.map strD)) ∨ kO = .ow .lst (ks.map strD)) → js ≠ [] → js.length ≤ 2 ^ 10 → (∀ k ∈ js, isKey k = true) → m ≤ n + 300 → Src m o' → T [s, .sh (.sc (.int i)), o', kO, .sh (.sc (.int t)), .sh (.sc (.int mo)), .sh (.sc (.int ma)), .sh (.nd .lst (js.map strD)), x8, x9, x10, x11] k ε := by
      intro m o2 kO js hkO hjs hjl hjk hm hs2
      have hk2 := hs2.kill
      have hkk : VL.kill kO = kO := by rcases hkO with e | e <;> subst e <;> rfl
      obtain ⟨d2, e⟩ := hs2.own
      subst e
      subst hT
      generalize hT : (vSeq (vSet 9 _) _ : VS) = T
      have tail4 : ∀ (m2 : Nat) (o' : O) (ls : List Str), ls.length ≤ 200 → (∀ k ∈ ls, isKey k = true) → m2 ≤ n + 2000 → Src m2 o' → T [s, .sh (.sc (.int i)), o', kO, .sh (.sc (.int t)), .sh (.sc (.int mo)), .sh (.sc (.int ma)), .sh (.nd .lst (js.map strD)), .ow .lst (ls.map strD), x9, x10, x11] k ε := by
        intro m2 o4 ls hll hlk hm2 hs4
        have hk4 := hs4.kill
        obtain ⟨d4, e⟩ := hs4.own
        subst e
        subst hT
        generalize hT : (vSeq (vFor _ _ _) _ : VS) = T
        simp [h0, h9, h10, h11, hkk, x_killAll]
        intro a
        simp [getP, getO, mutO, mutL, vw, view]
        refine counted_of G hs4 (by omega) hll hlk fun ps o5 c1 c2 c3 hs5 => ?_
        have hk5 := hs5.kill
        have hc5 := hs5.cl
        obtain ⟨d5, e⟩ := hs5.own
        subst e
        refine ⟨⟨cl_cnt ps, by simp [clOs, hc5]⟩, ?_⟩
        simp [h0, h9, h10, h11, hkk]
        refine draw_of G hs5 (by omega) (by omega) (by omega) fun r6 o6 g4 g5 hs6 => ?_
        have hk6 := hs6.kill
        obtain ⟨d6, e⟩ := hs6.own
        subst e
        simp [h0, h9, h10, h11, hkk]
        refine run_of G hs6 (by omega) hjs (by omega) hjk g4 (by omega) fun es o7 v1 v2 v3 hs7 => ?_
        have hk7 := hs7.kill
        simp [gNew, isBor, mkLst, shL]
        refine ⟨by omega, ?_⟩
        have l1 : ps.length ≤ 2000 := by omega
        have l2 : es.length ≤ 2000 := by rw [v1]; omega
        have ga : Gd 0 (.nd .lst (ls.map strD)) := gd_log (by omega) hlk
        have gb : Gd 1 (.nd .lst (ps.map cntD)) := gd_cnt l1 c3 c1
        have hek : ∀ k, some k ∈ es → isKey k = true := fun k hk => hjk k (v2 k hk)
        have gc : Gd 2 (.nd .lst (es.map evD)) := gd_run l2 hek (runB_of v3)
        subst hT
        have sq : ∀ (A B : VS) (ρ : VL.Env) (k : VK) (ε : XP), vSeq A B ρ k ε = A ρ { k with nx := fun ρ1 => B ρ1 k ε } ε := fun _ _ _ _ _ => rfl
        rw [sq]
        generalize hT : (vSeq (vDrop _) _ : VS) = T
        simp
        refine kinds0 G ga gb gc fun b b1 b2 => ?_
        subst hT
        dsimp only
        rw [sq]
        generalize hT : (vSeq (vForX _ _ _) _ : VS) = T
        simp [getP, getO, kidsO, ownT, mMap, putP, setP, setO, setKid, h0, h10, h11, hkk, hk7, isBor]
        subst hT
        rw [sq]
        generalize hT : (vFor (vRng1 _) _ _ : VS) = T
        simp [getP, getO, kidsO, setP, setO, setKid, nameK, statOf, statK, cutL, HT.sIx]
        refine ⟨⟨rfl, rfl⟩, ?_⟩
        rw [← List.map_reverse]
        simp only [vForC, x_gName, List.set_cons_succ, List.set_cons_zero]
        refine ⟨trivial, st_pop1 G (n := 1) (f := cntD) (g := fun p => .tuple [.str p.1, .int p.2]) (by decide) (fun p hp => Dat.tup2 (Dat.str (isKey_ok (c3 p hp).1)) Dat.int) ⟨h0, rfl, hk7, hkk, rfl, rfl, rfl, rfl, rfl⟩ ?_⟩
        refine ⟨trivial, st_pop2 G (n := 1) (f := evD) (g := evP) (by decide) (fun e he => evDat fun k hk => hek k (hk ▸ he)) ⟨h0, rfl, hk7, hkk, rfl, rfl, rfl, rfl, rfl⟩ ?_⟩
        refine ⟨trivial, ?_⟩
        subst hT
        simp
        have dl : ∀ {α : Type} (xs : List α), xs.dropLast.length ≤ xs.length := fun xs => by rw [List.length_dropLast]; omega
        have dm : ∀ {α : Type} {xs : List α} {x : α}, x ∈ xs.dropLast → x ∈ xs := fun h => List.dropLast_subset _ h
        have ga2 : Gd 0 (.nd .lst (ls.reverse.map strD)) := gd_log (by rw [List.length_reverse]; omega) fun k hk => hlk k (List.mem_reverse.mp hk)
        have gb2 : Gd 1 (.nd .lst (ps.dropLast.map cntD)) := gd_cnt (Nat.le_trans (dl ps) l1) (fun p hp => c3 p (dm hp)) (cntP_drop c1)
        have gc2 : Gd 2 (.nd .lst (es.dropLast.map evD)) := gd_run (Nat.le_trans (dl es) l2) (fun k hk => hek k (dm hk)) (run_drop (runB_of v3))
        rw [List.map_reverse] at ga2
        rw [List.map_dropLast] at gb2 gc2
        refine kinds1 G ga2 gb2 gc2 ?_
        exact h _ _ _ _ _ _ _ _ _ hkO ⟨rfl, rfl, rfl, rfl, rfl, rfl, rfl⟩ (hs7.le (by omega))
      simp [h0, h8, h9, h10, h11, hkk, x_killAll, gNew, isBor, mkLst, shL]
      refine draw_of G hs2 (by omega) (by omega) (by omega) fun r3 o3 g0 g1 hs3 => ?_
      have hk3 := hs3.kill
      obtain ⟨d3, e⟩ := hs3.own
      subst e
      simp [h0, h8, h9, h10, h11, hkk]
      refine ⟨by omega, draw_of G hs3 (by omega) (by omega) (by omega) fun r4 o4 g2 g3 hs4 => ?_⟩
      have hk4 := hs4.kill
      obtain ⟨d4, e⟩ := hs4.own
      subst e
      simp [h0, h8, h9, h10, h11, hkk]
      rcases (show r4 = 0 ∨ r4 = 1 by omega) with rfl | rfl
      · simp [atI, ixN, shL, argOk, fz]
        refine log_of G hs4 (by omega) hjs (by omega) hjk g0 (by omega) fun ls o5 f1 f2 hs5 => ?_
        have hk5 := hs5.kill
        simp
        exact tail4 _ o5 ls (by omega) (fun k hk => hjk k (f2 k hk)) (by omega) hs5
      · simp [atI, ixN, shL, argOk, fz]
        refine log_of G hs4 (by omega) hjs (by omega) hjk m0 (by omega) fun ls o5 f1 f2 hs5 => ?_
        have hk5 := hs5.kill
        simp
        exact tail4 _ o5 ls (by omega) (fun k hk => hjk k (f2 k hk)) (by omega) hs5
    simp [h0, h7, h8, h9, h10, h11, hkk]
    by_cases e : mo = 200
    · rw [if_pos e]
      refine keys_of' G hs1 (by omega) (by decide) (by decide) fun js o2 g1 g2 g3 => ?_
      simp [x_killAll, h0, h7, h8, h9, h10, h11, hkk, g3.kill]
      exact tail2 _ o2 kO js hkO (by intro z; rw [z] at g1; simp at g1) (by omega) g2 (by omega) g3
    · rw [if_neg e]
      refine hfr ?_
      exact tail2 (n + 1) _ _ ks (.inl rfl) hks hkl hok (by omega) hs1
  simp [x_killAll, h0, h5, h6, h7, h8, h9, h10, h11, hkk, gNew, isBor, mkLst, mkTup, shL]
  refine ⟨by omega, ?_⟩
  split
  · refine draw_of G hs (by omega) (by omega) (by omega) fun r o' g0 g1 hs' => ?_
    rcases (show r = 0 ∨ r = 1 by omega) with rfl | rfl
    · rcases Decidable.em (t = 0) with rfl | ht
      · simp only [if_true, y_mul]
        refine ⟨by decide +kernel, ?_⟩
        simp [atI, ixN]
        exact tail 20 20 o' (by decide) (by decide) (by decide) (by decide) hs'
      · simp only [if_neg ht, y_mul]
        refine ⟨by decide +kernel, ?_⟩
        simp [atI, ixN]
        exact tail 20 20 o' (by decide) (by decide) (by decide) (by decide) hs'
    · rcases Decidable.em (t = 0) with rfl | ht
      · simp only [if_true, y_mul]
        refine ⟨by decide +kernel, ?_⟩
        simp [atI, ixN]
        exact tail 200 1000 o' (by decide) (by decide) (by decide) (by decide) hs'
      · simp only [if_neg ht, y_mul]
        refine ⟨by decide +kernel, ?_⟩
        simp [atI, ixN]
        exact tail 20 20 o' (by decide) (by decide) (by decide) (by decide) hs'
  · refine draw_of G hs (by omega) (by omega) (by omega) fun r o' g0 g1 hs' => ?_
    rcases (show r = 0 ∨ r = 1 by omega) with rfl | rfl <;> simp only [y_mul] <;> refine ⟨by decide +kernel, ?_⟩ <;> simp [atI, ixN]
    · exact tail 20 20 o' (by decide) (by decide) (by decide) (by decide) hs'
    · exact tail 20 20 o' (by decide) (by decide) (by decide) (by decide) hs'
end
end VL.L59

namespace VL.L59
open PySem PySem.Spec L2 SX
section
variable {K : PySem.W.Frag} {mg : Str → Option Value} (G : Gx K mg)
theorem loop_turns {k : VK} {ε : XP} {s : O} {i : Int} {ks : List Str} (h0 : kill s = s) (hks : ks ≠ []) (hkl : ks.length ≤ 2 ^ 10) (hok : ∀ k ∈ ks, isKey k = true) : ∀ (ts : List Int) (kO o x4 x5 x6 x7 x8 x9 x10 x11 : O) (n : Nat), (kO = .sh (.nd .lst (ks.map strD)) ∨ kO = .ow .lst (ks.map strD)) → kill x4 = x4 → K11 x5 x6 x7 x8 x9 x10 x11 → Src n o → n + 10000 * ts.length < 2 ^ 60 →
    (∀ x2 x3 x4 x5 x6 x7 x8 x9 x10 x11, kill x2 = x2 → kill x3 = x3 → kill x4 = x4 → K11 x5 x6 x7 x8 x9 x10 x11 → k.nx [s, .sh (.sc (.int i)), x2, x3, x4, x5, x6, x7, x8, x9, x10, x11]) →
    vForL (vgName 4) (s_law_3 G) (ts.map fun i => D.sc (.int i)) [s, .sh (.sc (.int i)), o, kO, x4, x5, x6, x7, x8, x9, x10, x11] k ε
  | [], kO, o, x4, x5, x6, x7, x8, x9, x10, x11, n, hkO, h4, hx, hs, hn, h => h _ _ _ _ _ _ _ _ _ _ hs.kill (by rcases hkO with e | e <;> subst e <;> rfl) h4 hx
  | t :: ts, kO, o, x4, x5, x6, x7, x8, x9, x10, x11, n, hkO, h4, hx, hs, hn, h => by
    rw [List.length_cons] at hn
    simp only [List.map_cons, vForL, x_gName, List.set_cons_succ, List.set_cons_zero]
    refine st_turn G h0 hx hs (by omega) hkO hks hkl hok fun kO' y5 y6 y7 y8 y9 y10 y11 o' hkO' gx hs2 => ?_
    exact loop_turns h0 hks hkl hok ts _ o' _ _ _ _ _ _ _ _ (n + 10000) hkO' rfl gx hs2 (by omega) h
theorem source_of {ns : List Int} {k : Int} {φ : O → List O → Prop} {ε : Exc → List O → Prop} (h0 : 0 ≤ k) (h1 : k < 1000) (h : ∀ o, Src 0 o → φ o []) : sp__law_source G [.sh (.nd .fzl (ns.map fun n => D.sc (.int n))), .sh (.sc (.int k))] φ ε := ⟨ns, k, rfl, h0, h1, h⟩
abbrev scrO (ns : List Int) : O := .sh (.nd .fzl (ns.map fun n => D.sc (.int n)))
theorem st_cell {k : VK} {ε : XP} {x2 x3 x4 x5 x6 x7 x8 x9 x10 x11 : O} {ns : List Int} {i : Nat} (h3 : kill x3 = x3) (h4 : kill x4 = x4) (hx : K11 x5 x6 x7 x8 x9 x10 x11) (hi : i < 1000)
    (h : ∀ x2 x3 x4 x5 x6 x7 x8 x9 x10 x11, kill x2 = x2 → kill x3 = x3 → kill x4 = x4 → K11 x5 x6 x7 x8 x9 x10 x11 → k.nx [scrO ns, .sh (.sc (.int (i : Nat))), x2, x3, x4, x5, x6, x7, x8, x9, x10, x11]) :
    s_law_4 G [scrO ns, .sh (.sc (.int (i : Nat))), x2, x3, x4, x5, x6, x7, x8, x9, x10, x11] k ε := by
  obtain ⟨h5, h6, h7, h8, h9, h10, h11⟩ := hx
  unfold s_law_4
  generalize hT : (vFor _ _ (s_law_3 G) : VS) = T
  simp [x_killAll]
  refine source_of G (by omega) (by omega) fun o hs => ?_
  have hk0 := hs.kill
  obtain ⟨ds, e⟩ := hs.own
  subst e
  simp [h3, h4, h5, h6, h7, h8, h9, h10, h11]
  refine draw_of G hs (by decide) (by decide) (by decide) fun r o1 hr0 hr1 hs1 => ?_
  have hk1 := hs1.kill
  obtain ⟨ds1, e⟩ := hs1.own
  subst e
  simp [h3, h4, h5, h6, h7, h8, h9, h10, h11]
  refine keys_of' G hs1 (by decide) (by omega) (by omega) fun ks o2 g1 g2 g3 => ?_
  have hk2 := g3.kill
  simp [hk2, h3, h4, h5, h6, h7, h8, h9, h10, h11]
  subst hT
  simp
  have e6 : intsD 0 1 3 = ((List.range 3).map fun i : Nat => (i : Int)).map fun i => D.sc (.int i) := rfl
  rw [e6]
  exact loop_turns G rfl (by intro z; rw [z] at g1; simp at g1; omega) (by omega) g2 _ _ o2 _ _ _ _ _ _ _ _ _ (.inr rfl) h4 ⟨h5, h6, h7, h8, h9, h10, h11⟩ g3 (by simp; omega) h
theorem loop_ks {k : VK} {ε : XP} {ns : List Int} : ∀ (is : List Nat) (x1 x2 x3 x4 x5 x6 x7 x8 x9 x10 x11 : O), (∀ i ∈ is, i < 1000) → kill x1 = x1 → kill x2 = x2 → kill x3 = x3 → kill x4 = x4 → K11 x5 x6 x7 x8 x9 x10 x11 →
    (∀ ρ, ρ.map kill = ρ → ρ.length = 12 → k.nx ρ) →
    vForL (vgName 1) (s_law_4 G) (is.map fun i : Nat => D.sc (.int i)) [scrO ns, x1, x2, x3, x4, x5, x6, x7, x8, x9, x10, x11] k ε
  | [], x1, x2, x3, x4, x5, x6, x7, x8, x9, x10, x11, hi, h1, h2, h3, h4, ⟨h5, h6, h7, h8, h9, h10, h11⟩, h => h _ (by simp [h1, h2, h3, h4, h5, h6, h7, h8, h9, h10, h11]) rfl
  | i :: is, x1, x2, x3, x4, x5, x6, x7, x8, x9, x10, x11, hi, h1, h2, h3, h4, hx, h => by
    simp only [List.map_cons, vForL, x_gName, List.set_cons_succ, List.set_cons_zero]
    refine st_cell G h3 h4 hx (hi i (by simp)) fun y2 y3 y4 y5 y6 y7 y8 y9 y10 y11 g2 g3 g4 gx => ?_
    exact loop_ks is _ _ _ _ _ _ _ _ _ _ _ (fun j hj => hi j (List.mem_cons_of_mem _ hj)) rfl g2 g3 g4 gx h
theorem p_law : PureV 1 12 [] (r_law G) (sp_law G) := by
  intro os φ ε h _
  obtain ⟨ns, hns, rfl, hk⟩ := h
  have esz : sizeLine = 16777216 := by decide +kernel
  simp [r_law]
  refine ⟨?_, ?_⟩
  · split <;> split <;> omega
  · rw [intsD_map]
    refine loop_ks G _ _ _ _ _ _ _ _ _ _ _ _ (fun i hi => ?_) rfl rfl rfl rfl ⟨rfl, rfl, rfl, rfl, rfl, rfl, rfl⟩ fun ρ hρ hl => ?_
    · have := List.mem_range.mp hi
      split at this <;> split at this <;> omega
    · simp [t_law_1, s_law_5, gNew, isBor, mkLst, mkTup, shL, x_killAll]
      have dd : D.nd Lab.lst [D.nd Lab.tup [D.sc (Sc.str (Str.ofString "a")), D.sc (Sc.int 100000000000000000000000000000)]] = .nd .lst ([(Str.ofString "a", (100000000000000000000000000000 : Int))].map cntD) := rfl
      have gd : Gd 1 (.nd .lst ([(Str.ofString "a", (100000000000000000000000000000 : Int))].map cntD)) := gd_cnt (by decide) (fun p hp => by rw [List.mem_singleton.mp hp]; exact ⟨by decide +kernel, by decide, by decide⟩) (by decide +kernel)
      refine ⟨by decide +kernel, by omega, by omega, ?_⟩
      rw [dd]
      refine format_of G gd ?_
      have et : textOf (.nd .lst ([(Str.ofString "a", (100000000000000000000000000000 : Int))].map cntD)) = Str.ofString "a#1" ++ repS (Str.ofString "0") 29 := by decide +kernel
      rw [et]
      refine ⟨by decide +kernel, by decide +kernel, ?_⟩
      refine eq_strs ?_
      simp [nb]
      have e3 : (intsD 0 1 3) = [.sc (.int 0), .sc (.int 1), .sc (.int 2)] := rfl
      have g0 : Gd 0 (.nd .lst []) := gd_log (ls := []) (by decide) fun k hk => by cases hk
      have g1 : Gd 1 (.nd .lst []) := gd_cnt (ps := []) (by decide) (fun k hk => by cases hk) rfl
      have g2 : Gd 2 (.nd .lst []) := gd_run (es := []) (by decide) (fun k hk => by cases hk) rfl
      obtain ⟨y0, y1, y2, y3, y4, y5, y6, y7, y8, y9, y10, y11, rfl⟩ : ∃ y0 y1 y2 y3 y4 y5 y6 y7 y8 y9 y10 y11, ρ = [y0, y1, y2, y3, y4, y5, y6, y7, y8, y9, y10, y11] := by
        match ρ, hl with
        | [y0, y1, y2, y3, y4, y5, y6, y7, y8, y9, y10, y11], _ => exact ⟨_, _, _, _, _, _, _, _, _, _, _, _, rfl⟩
      simp at hρ
      obtain ⟨k0, k1, k2, k3, k4, k5, k6, k7, k8, k9, k10, k11⟩ := hρ
      simp [t_law_2, e3, vLcL, wipeE, x_killAll, gNew, isBor, mkLst, shL, k0, k1, k2, k3, k4, k5, k6, k7, k8, k9, k10, k11]
      refine law_right_of G (kind := 0) (by decide) g0 ?_
      refine ⟨by omega, law_right_of G (kind := 1) (by decide) g1 ?_⟩
      refine ⟨by omega, law_right_of G (kind := 2) (by decide) g2 ?_⟩
      refine ⟨by omega, by omega, by omega, ?_⟩
      have dt : Dat 1 (.nd .lst [.sc (.bl true), .sc (.bl true), .sc (.bl true)]) (.list [.bool true, .bool true, .bool true]) := Dat.list (α := Bool) (n := 0) (f := fun b => .sc (.bl b)) (g := fun b => .bool b) (xs := [true, true, true]) fun b _ => ⟨rfl, Fit.bl⟩
      refine eq_dat (n := 1) (m := 1) rfl rfl dt dt (by decide) (by decide) (fun s t e => by cases e) ?_
      exact hk
end
end VL.L59

namespace VL.L59
open PySem PySem.Spec L2
theorem b_is_key {P : Program} {w : World} {K : PySem.W.Frag} {mg : Str → Option Value} {base : Heap} (G : Gx K mg) : BodyV P w K mg base "is_key" (defBody (top 11)) (defScope (top 11)) G.f_is_key ["value", "character"] 0 [] (r_is_key G) := by
  intro cdv A outer s H E hr g tk hp
  have hc : (cxOf (L2.CX P w) P w K mg base ["value", "character"] "is_key" (defScope (top 11)) G.f_is_key cdv A outer s H E).calm = true := rfl
  have nd := (sc_is_key).nd
  have u1 := Room.u1 hr
  have u64 := Room.u64 hr
  have u65 := Room.u65 hr
  have u200 := Room.u200 hr
  exact (bv_cons (sv_if (tv_w (wv_or (tv_not (tv_val (ev_cb call_isi sr_isi (av_cons (ev_name (pv 0)) (av_cons (ev_bltS (s := .ty "str") G.n_str PyProof.Rows.boot_str rfl) av_nil)) G.n_isinstance PyProof.Rows.boot_isinstance))) (wv_or (tv_not (tv_chainI (f1 := fun i j => decide (i ≤ j)) (f2 := fun i j => decide (i ≤ j)) op_le op_le ev_int (ev_cb call_lenU sr_len (av_cons (ev_name (pv 0)) av_nil) G.n_len PySem.boot_len) (ev_globS (s := .int 12) G.g_MOST_CHARACTERS ⟨_, rfl⟩))) (wv_or1 (tv_cmp (op_notInW u65) sr_inW.srv (ev_ix u1 (ev_name (pv 0)) ev_int) (ev_globS (s := .str "abcdefghijklmnopqrstuvwxyz") G.g_LETTERS ⟨_, rfl⟩) (by with_unfolding_all rfl))))))
 (bv_one (sv_ret ev_bl))
 bv_nil)
 (bv_one (sv_ret (ev_cb (cr_all hc) sr_all (av_cons (ev_lc (own := [("character", 1)]) hc nd (iv_str (ev_name (pv 0))) (blkOk_by (N := N_is_key) (sc := defScope (top 11)) (by decide +kernel)) ⟨fun io s H C cl fp ho => (gv_name nd (i := 1) (hio := ho 1 (by decide))), fun s H C cl fp => cv_nil, fun s H C cl fp => (ev_cmp (op_inW u65) sr_inW.srv (ev_name (pv 1)) (ev_globS (s := .str "abcdefghijklmnopqrstuvwxyz0123456789_") G.g_CHARACTERS ⟨_, rfl⟩) (by with_unfolding_all rfl))⟩) av_nil) G.n_all PyProof.Rows.boot_all))))
theorem ok_is_key {P : Program} {w : World} {K : PySem.W.Frag} {mg : Str → Option Value} {base : Heap} (G : Gx K mg) : FnV P w K mg base 1 G.f_is_key G.fd_is_key ["value"] [] (sp_is_key G) := fnv_of G.D_is_key sc_is_key (by decide) (by decide) (b_is_key G) (p_is_key G)
theorem b_is_integer {P : Program} {w : World} {K : PySem.W.Frag} {mg : Str → Option Value} {base : Heap} (G : Gx K mg) : BodyV P w K mg base "is_integer" (defBody (top 12)) (defScope (top 12)) G.f_is_integer ["value", "least", "greatest"] 0 [] (r_is_integer G) := by
  intro cdv A outer s H E hr g tk hp
  have hc : (cxOf (L2.CX P w) P w K mg base ["value", "least", "greatest"] "is_integer" (defScope (top 12)) G.f_is_integer cdv A outer s H E).calm = true := rfl
  have nd := (sc_is_integer).nd
  have u1 := Room.u1 hr
  have u64 := Room.u64 hr
  have u65 := Room.u65 hr
  have u200 := Room.u200 hr
  exact (bv_cons (sv_if (tv_w (wv_or (tv_not (tv_val (ev_cb call_isi sr_isi (av_cons (ev_name (pv 0)) (av_cons (ev_bltS (s := .ty "int") G.n_int PyProof.Rows.boot_int rfl) av_nil)) G.n_isinstance PyProof.Rows.boot_isinstance))) (wv_or (tv_val (ev_cb call_isi sr_isi (av_cons (ev_name (pv 0)) (av_cons (ev_bltS (s := .ty "bool") G.n_bool PyProof.Rows.boot_bool rfl) av_nil)) G.n_isinstance PyProof.Rows.boot_isinstance)) (wv_or1 (tv_cmp op_lt sr_cmp.srv (ev_name (pv 0)) (ev_name (pv 1)) (nomark _))))))
 (bv_one (sv_ret ev_bl))
 bv_nil)
 (bv_one (sv_ret (ev_or (ev_cmp op_isW sr_isN.srv (ev_name (pv 2)) ev_non (nomark _)) (ev_one (ev_cmp op_le sr_cmp.srv (ev_name (pv 0)) (ev_name (pv 2)) (nomark _)))))))
theorem ok_is_integer {P : Program} {w : World} {K : PySem.W.Frag} {mg : Str → Option Value} {base : Heap} (G : Gx K mg) : FnV P w K mg base 1 G.f_is_integer G.fd_is_integer ["value", "least", "greatest"] [] (sp_is_integer G) := fnv_of G.D_is_integer sc_is_integer (by decide) (by decide) (b_is_integer G) (p_is_integer G)
theorem b_is_write {P : Program} {w : World} {K : PySem.W.Frag} {mg : Str → Option Value} {base : Heap} (G : Gx K mg) : BodyV P w K mg base "is_write" (defBody (top 13)) (defScope (top 13)) G.f_is_write ["value"] 1 [] (r_is_write G) := by
  intro cdv A outer s H E hr g tk hp
  have hc : (cxOf (L2.CX P w) P w K mg base ["value"] "is_write" (defScope (top 13)) G.f_is_write cdv A outer s H E).calm = true := rfl
  have nd := (sc_is_write).nd
  have u1 := Room.u1 hr
  have u64 := Room.u64 hr
  have u65 := Room.u65 hr
  have u200 := Room.u200 hr
  exact (bv_one (sv_ret (ev_and (ev_cb call_isi sr_isi (av_cons (ev_name (pv 0)) (av_cons (ev_bltS (s := .ty "tuple") G.n_tuple PyProof.Rows.boot_tuple rfl) av_nil)) G.n_isinstance PyProof.Rows.boot_isinstance) (ev_and (ev_cmp (op_eqW u64) sr_eq.srv (ev_cb call_lenU sr_len (av_cons (ev_name (pv 0)) av_nil) G.n_len PySem.boot_len) ev_int (nomark _)) (ev_and (ev_call ((ok_is_key G).mono (by decide)) hr g G.m_is_key G.D_is_key.kp (bi_is_key G) (dv := []) .nil tk (xv_val (ev_ix u1 (ev_name (pv 0)) ev_int) xv_nil)) (ev_one (ev_call ((ok_is_integer G).mono (by decide)) hr g G.m_is_integer G.D_is_integer.kp (bi_is_integer_2 G).choose_spec.2 (dv := [.non]) (bi_is_integer_2 G).choose_spec.1 tk (xv_val (ev_ix u1 (ev_name (pv 0)) ev_int) (xv_val ev_int xv_nil)))))))))
theorem ok_is_write {P : Program} {w : World} {K : PySem.W.Frag} {mg : Str → Option Value} {base : Heap} (G : Gx K mg) : FnV P w K mg base 2 G.f_is_write G.fd_is_write ["value"] [] (sp_is_write G) := fnv_of G.D_is_write sc_is_write (by decide) (by decide) (b_is_write G) (p_is_write G)
theorem b_is_log {P : Program} {w : World} {K : PySem.W.Frag} {mg : Str → Option Value} {base : Heap} (G : Gx K mg) : BodyV P w K mg base "is_log" (defBody (top 14)) (defScope (top 14)) G.f_is_log ["value", "key"] 1 [] (r_is_log G) := by
  intro cdv A outer s H E hr g tk hp
  have hc : (cxOf (L2.CX P w) P w K mg base ["value", "key"] "is_log" (defScope (top 14)) G.f_is_log cdv A outer s H E).calm = true := rfl
  have nd := (sc_is_log).nd
  have u1 := Room.u1 hr
  have u64 := Room.u64 hr
  have u65 := Room.u65 hr
  have u200 := Room.u200 hr
  exact (bv_one (sv_ret (ev_and (ev_cb call_isi sr_isi (av_cons (ev_name (pv 0)) (av_cons (ev_bltS (s := .ty "list") G.n_list PyProof.Rows.boot_list rfl) av_nil)) G.n_isinstance PyProof.Rows.boot_isinstance) (ev_one (ev_cb (cr_all hc) sr_all (av_cons (ev_lc (own := [("key", 1)]) hc nd (iv_list (ev_name (pv 0))) (blkOk_by (N := N_is_log) (sc := defScope (top 14)) (by decide +kernel)) ⟨fun io s H C cl fp ho => (gv_name nd (i := 1) (hio := ho 1 (by decide))), fun s H C cl fp => cv_nil, fun s H C cl fp => (ev_call ((ok_is_key G).mono (by decide)) hr g G.m_is_key G.D_is_key.kp (bi_is_key G) (dv := []) .nil takes0 (xv_val (ev_name (pv 1)) xv_nil))⟩) av_nil) G.n_all PyProof.Rows.boot_all)))))
theorem ok_is_log {P : Program} {w : World} {K : PySem.W.Frag} {mg : Str → Option Value} {base : Heap} (G : Gx K mg) : FnV P w K mg base 2 G.f_is_log G.fd_is_log ["value"] [] (sp_is_log G) := fnv_of G.D_is_log sc_is_log (by decide) (by decide) (b_is_log G) (p_is_log G)
theorem b_is_counted {P : Program} {w : World} {K : PySem.W.Frag} {mg : Str → Option Value} {base : Heap} (G : Gx K mg) : BodyV P w K mg base "is_counted" (defBody (top 15)) (defScope (top 15)) G.f_is_counted ["value", "last", "key", "count", "item"] 2 [] (r_is_counted G) := by
  intro cdv A outer s H E hr g tk hp
  have hc : (cxOf (L2.CX P w) P w K mg base ["value", "last", "key", "count", "item"] "is_counted" (defScope (top 15)) G.f_is_counted cdv A outer s H E).calm = true := rfl
  have nd := (sc_is_counted).nd
  have u1 := Room.u1 hr
  have u64 := Room.u64 hr
  have u65 := Room.u65 hr
  have u200 := Room.u200 hr
  exact (bv_cons (sv_if (tv_w (wv_or (tv_not (tv_val (ev_cb call_isi sr_isi (av_cons (ev_name (pv 0)) (av_cons (ev_bltS (s := .ty "list") G.n_list PyProof.Rows.boot_list rfl) av_nil)) G.n_isinstance PyProof.Rows.boot_isinstance))) (wv_or1 (tv_not (tv_val (ev_cb (cr_all hc) sr_all (av_cons (ev_lc (own := [("item", 4)]) hc nd (iv_list (ev_name (pv 0))) (blkOk_by (N := N_is_counted) (sc := defScope (top 15)) (by decide +kernel)) ⟨fun io s H C cl fp ho => (gv_name nd (i := 4) (hio := ho 4 (by decide))), fun s H C cl fp => cv_nil, fun s H C cl fp => (ev_call ((ok_is_write G).mono (by decide)) hr g G.m_is_write G.D_is_write.kp (bi_is_write G) (dv := []) .nil takes0 (xv_val (ev_name (pv 4)) xv_nil))⟩) av_nil) G.n_all PyProof.Rows.boot_all))))))
 (bv_one (sv_ret ev_bl))
 bv_nil)
 (bv_cons (sv_set (i := 1) nd ev_dnew)
 (bv_cons (sv_for hp hc (iv_list (ev_name (pv 0))) (gv_tup hc (gsv_cons (gv_name nd (i := 2)) (gsv_cons (gv_name nd (i := 3)) gsv_nil)))
 (bv_cons (sv_if (tv_cmp op_le sr_cmp.srv (ev_name (pv 3)) (ev_dget2 u1 (ev_name (pv 1)) (ev_name (pv 2)) ev_int) (nomark _))
 (bv_one (sv_ret ev_bl))
 bv_nil)
 (bv_one (sv_asg (ev_name (pv 3)) (gv_sub (W := fun _ _ _ _ => False) u1 (pv 1) (ev_name (pv 2)))))))
 (bv_one (sv_ret ev_bl)))))
theorem ok_is_counted {P : Program} {w : World} {K : PySem.W.Frag} {mg : Str → Option Value} {base : Heap} (G : Gx K mg) : FnV P w K mg base 3 G.f_is_counted G.fd_is_counted ["value"] [] (sp_is_counted G) := fnv_of G.D_is_counted sc_is_counted (by decide) (by decide) (b_is_counted G) (p_is_counted G)
theorem b_is_event {P : Program} {w : World} {K : PySem.W.Frag} {mg : Str → Option Value} {base : Heap} (G : Gx K mg) : BodyV P w K mg base "is_event" (defBody (top 16)) (defScope (top 16)) G.f_is_event ["value"] 1 [] (r_is_event G) := by
  intro cdv A outer s H E hr g tk hp
  have hc : (cxOf (L2.CX P w) P w K mg base ["value"] "is_event" (defScope (top 16)) G.f_is_event cdv A outer s H E).calm = true := rfl
  have nd := (sc_is_event).nd
  have u1 := Room.u1 hr
  have u64 := Room.u64 hr
  have u65 := Room.u65 hr
  have u200 := Room.u200 hr
  exact (bv_cons (sv_if (tv_w (wv_or (tv_not (tv_val (ev_cb call_isi sr_isi (av_cons (ev_name (pv 0)) (av_cons (ev_bltS (s := .ty "tuple") G.n_tuple PyProof.Rows.boot_tuple rfl) av_nil)) G.n_isinstance PyProof.Rows.boot_isinstance))) (wv_or (tv_cmp (op_eqE u64) sr_eqE.srv (ev_name (pv 0)) (ev_tup av_nil) (nomark _)) (wv_or1 (tv_not (tv_val (ev_cb call_isi sr_isi (av_cons (ev_ix u1 (ev_name (pv 0)) ev_int) (av_cons (ev_bltS (s := .ty "str") G.n_str PyProof.Rows.boot_str rfl) av_nil)) G.n_isinstance PyProof.Rows.boot_isinstance)))))))
 (bv_one (sv_ret ev_bl))
 bv_nil)
 (bv_cons (sv_if (tv_cmp (op_eqW u64) sr_eq.srv (ev_cb call_lenU sr_len (av_cons (ev_name (pv 0)) av_nil) G.n_len PySem.boot_len) ev_int (nomark _))
 (bv_one (sv_ret (ev_and (ev_cmp (op_eqW u64) sr_eq.srv (ev_ix u1 (ev_name (pv 0)) ev_int) (ev_globS (s := .str "write") G.g_WRITE ⟨_, rfl⟩) (nomark _)) (ev_one (ev_call ((ok_is_key G).mono (by decide)) hr g G.m_is_key G.D_is_key.kp (bi_is_key G) (dv := []) .nil tk (xv_val (ev_ix u1 (ev_name (pv 0)) ev_int) xv_nil))))))
 bv_nil)
 (bv_one (sv_ret (ev_cmp (op_eqW u64) sr_eq.srv (ev_name (pv 0)) (ev_tup (av_cons (ev_globS (s := .str "send") G.g_SEND ⟨_, rfl⟩) av_nil)) (nomark _))))))
theorem ok_is_event {P : Program} {w : World} {K : PySem.W.Frag} {mg : Str → Option Value} {base : Heap} (G : Gx K mg) : FnV P w K mg base 2 G.f_is_event G.fd_is_event ["value"] [] (sp_is_event G) := fnv_of G.D_is_event sc_is_event (by decide) (by decide) (b_is_event G) (p_is_event G)
theorem b_are_events {P : Program} {w : World} {K : PySem.W.Frag} {mg : Str → Option Value} {base : Heap} (G : Gx K mg) : BodyV P w K mg base "are_events" (defBody (top 17)) (defScope (top 17)) G.f_are_events ["value", "event"] 2 [] (r_are_events G) := by
  intro cdv A outer s H E hr g tk hp
  have hc : (cxOf (L2.CX P w) P w K mg base ["value", "event"] "are_events" (defScope (top 17)) G.f_are_events cdv A outer s H E).calm = true := rfl
  have nd := (sc_are_events).nd
  have u1 := Room.u1 hr
  have u64 := Room.u64 hr
  have u65 := Room.u65 hr
  have u200 := Room.u200 hr
  exact (bv_one (sv_ret (ev_and (ev_cb call_isi sr_isi (av_cons (ev_name (pv 0)) (av_cons (ev_bltS (s := .ty "list") G.n_list PyProof.Rows.boot_list rfl) av_nil)) G.n_isinstance PyProof.Rows.boot_isinstance) (ev_one (ev_cb (cr_all hc) sr_all (av_cons (ev_lc (own := [("event", 1)]) hc nd (iv_list (ev_name (pv 0))) (blkOk_by (N := N_are_events) (sc := defScope (top 17)) (by decide +kernel)) ⟨fun io s H C cl fp ho => (gv_name nd (i := 1) (hio := ho 1 (by decide))), fun s H C cl fp => cv_nil, fun s H C cl fp => (ev_call ((ok_is_event G).mono (by decide)) hr g G.m_is_event G.D_is_event.kp (bi_is_event G) (dv := []) .nil takes0 (xv_val (ev_name (pv 1)) xv_nil))⟩) av_nil) G.n_all PyProof.Rows.boot_all)))))
theorem ok_are_events {P : Program} {w : World} {K : PySem.W.Frag} {mg : Str → Option Value} {base : Heap} (G : Gx K mg) : FnV P w K mg base 3 G.f_are_events G.fd_are_events ["value"] [] (sp_are_events G) := fnv_of G.D_are_events sc_are_events (by decide) (by decide) (b_are_events G) (p_are_events G)
theorem b_is_run {P : Program} {w : World} {K : PySem.W.Frag} {mg : Str → Option Value} {base : Heap} (G : Gx K mg) : BodyV P w K mg base "is_run" (defBody (top 18)) (defScope (top 18)) G.f_is_run ["value", "waiting", "event"] 3 [] (r_is_run G) := by
  intro cdv A outer s H E hr g tk hp
  have hc : (cxOf (L2.CX P w) P w K mg base ["value", "waiting", "event"] "is_run" (defScope (top 18)) G.f_is_run cdv A outer s H E).calm = true := rfl
  have nd := (sc_is_run).nd
  have u1 := Room.u1 hr
  have u64 := Room.u64 hr
  have u65 := Room.u65 hr
  have u200 := Room.u200 hr
  exact (bv_cons (sv_if (tv_not (tv_val (ev_call ((ok_are_events G).mono (by decide)) hr g G.m_are_events G.D_are_events.kp (bi_are_events G) (dv := []) .nil tk (xv_val (ev_name (pv 0)) xv_nil))))
 (bv_one (sv_ret ev_bl))
 bv_nil)
 (bv_cons (sv_set (i := 1) nd (ev_lst av_nil))
 (bv_cons (sv_for hp hc (iv_list (ev_name (pv 0))) (gv_name nd (i := 2))
 (bv_one (sv_if (tv_cmp (op_eqW u64) sr_eq.srv (ev_name (pv 2)) (ev_tup (av_cons (ev_globS (s := .str "send") G.g_SEND ⟨_, rfl⟩) av_nil)) (nomark _))
 (bv_cons (sv_if (tv_cmp (op_eqE u64) sr_eqE.srv (ev_name (pv 1)) (ev_lst av_nil) (nomark _))
 (bv_one (sv_ret ev_bl))
 bv_nil)
 (bv_one (sv_expr (ev_mut PySem.F.plainAttrs_list PySem.F.slot_list_pop PySem.F.type_list_pop mt_popAt ms_popAt (pv 1) (av_cons ev_int av_nil)))))
 (bv_one (sv_if (tv_cmp (op_notInW u65) sr_inW.srv (ev_ix u1 (ev_name (pv 2)) ev_int) (ev_name (pv 1)) (by with_unfolding_all rfl))
 (bv_one (sv_expr (ev_mut PySem.F.plainAttrs_list PySem.F.slot_list_append PySem.F.type_list_append mt_append ms_append (pv 1) (av_cons (ev_ix u1 (ev_name (pv 2)) ev_int) av_nil))))
 bv_nil)))))
 (bv_one (sv_ret ev_bl)))))
theorem ok_is_run {P : Program} {w : World} {K : PySem.W.Frag} {mg : Str → Option Value} {base : Heap} (G : Gx K mg) : FnV P w K mg base 4 G.f_is_run G.fd_is_run ["value"] [] (sp_is_run G) := fnv_of G.D_is_run sc_is_run (by decide) (by decide) (b_is_run G) (p_is_run G)
theorem b_require_log {P : Program} {w : World} {K : PySem.W.Frag} {mg : Str → Option Value} {base : Heap} (G : Gx K mg) : BodyV P w K mg base "require_log" (defBody (top 19)) (defScope (top 19)) G.f_require_log ["log"] 2 [] (r_require_log G) := by
  intro cdv A outer s H E hr g tk hp
  have hc : (cxOf (L2.CX P w) P w K mg base ["log"] "require_log" (defScope (top 19)) G.f_require_log cdv A outer s H E).calm = true := rfl
  have nd := (sc_require_log).nd
  have u1 := Room.u1 hr
  have u64 := Room.u64 hr
  have u65 := Room.u65 hr
  have u200 := Room.u200 hr
  exact (bv_one (sv_if (tv_not (tv_val (ev_call ((ok_is_log G).mono (by decide)) hr g G.m_is_log G.D_is_log.kp (bi_is_log G) (dv := []) .nil tk (xv_val (ev_name (pv 0)) xv_nil))))
 (bv_one (sv_raise hc tk PySem.F.excBase_ValueError G.x_InvalidLog G.mC_InvalidLog G.k_InvalidLog G.s_InvalidLog G.y_InvalidLog (av_cons ev_str av_nil)))
 bv_nil))
theorem ok_require_log {P : Program} {w : World} {K : PySem.W.Frag} {mg : Str → Option Value} {base : Heap} (G : Gx K mg) : FnV P w K mg base 3 G.f_require_log G.fd_require_log ["log"] [] (sp_require_log G) := fnv_of G.D_require_log sc_require_log (by decide) (by decide) (b_require_log G) (p_require_log G)
theorem b_require_counted {P : Program} {w : World} {K : PySem.W.Frag} {mg : Str → Option Value} {base : Heap} (G : Gx K mg) : BodyV P w K mg base "require_counted" (defBody (top 20)) (defScope (top 20)) G.f_require_counted ["counted"] 3 [] (r_require_counted G) := by
  intro cdv A outer s H E hr g tk hp
  have hc : (cxOf (L2.CX P w) P w K mg base ["counted"] "require_counted" (defScope (top 20)) G.f_require_counted cdv A outer s H E).calm = true := rfl
  have nd := (sc_require_counted).nd
  have u1 := Room.u1 hr
  have u64 := Room.u64 hr
  have u65 := Room.u65 hr
  have u200 := Room.u200 hr
  exact (bv_one (sv_if (tv_not (tv_val (ev_call ((ok_is_counted G).mono (by decide)) hr g G.m_is_counted G.D_is_counted.kp (bi_is_counted G) (dv := []) .nil tk (xv_val (ev_name (pv 0)) xv_nil))))
 (bv_one (sv_raise hc tk PySem.F.excBase_ValueError G.x_InvalidLog G.mC_InvalidLog G.k_InvalidLog G.s_InvalidLog G.y_InvalidLog (av_cons ev_str av_nil)))
 bv_nil))
theorem ok_require_counted {P : Program} {w : World} {K : PySem.W.Frag} {mg : Str → Option Value} {base : Heap} (G : Gx K mg) : FnV P w K mg base 4 G.f_require_counted G.fd_require_counted ["counted"] [] (sp_require_counted G) := fnv_of G.D_require_counted sc_require_counted (by decide) (by decide) (b_require_counted G) (p_require_counted G)
theorem b_require_run {P : Program} {w : World} {K : PySem.W.Frag} {mg : Str → Option Value} {base : Heap} (G : Gx K mg) : BodyV P w K mg base "require_run" (defBody (top 21)) (defScope (top 21)) G.f_require_run ["run"] 4 [] (r_require_run G) := by
  intro cdv A outer s H E hr g tk hp
  have hc : (cxOf (L2.CX P w) P w K mg base ["run"] "require_run" (defScope (top 21)) G.f_require_run cdv A outer s H E).calm = true := rfl
  have nd := (sc_require_run).nd
  have u1 := Room.u1 hr
  have u64 := Room.u64 hr
  have u65 := Room.u65 hr
  have u200 := Room.u200 hr
  exact (bv_one (sv_if (tv_not (tv_val (ev_call ((ok_is_run G).mono (by decide)) hr g G.m_is_run G.D_is_run.kp (bi_is_run G) (dv := []) .nil tk (xv_val (ev_name (pv 0)) xv_nil))))
 (bv_one (sv_raise hc tk PySem.F.excBase_ValueError G.x_InvalidRun G.mC_InvalidRun G.k_InvalidRun G.s_InvalidRun G.y_InvalidRun (av_cons ev_str av_nil)))
 bv_nil))
theorem ok_require_run {P : Program} {w : World} {K : PySem.W.Frag} {mg : Str → Option Value} {base : Heap} (G : Gx K mg) : FnV P w K mg base 5 G.f_require_run G.fd_require_run ["run"] [] (sp_require_run G) := fnv_of G.D_require_run sc_require_run (by decide) (by decide) (b_require_run G) (p_require_run G)
theorem b_format_log {P : Program} {w : World} {K : PySem.W.Frag} {mg : Str → Option Value} {base : Heap} (G : Gx K mg) : BodyV P w K mg base "format_log" (defBody (top 27)) (defScope (top 27)) G.f_format_log ["log"] 3 [] (r_format_log G) := by
  intro cdv A outer s H E hr g tk hp
  have hc : (cxOf (L2.CX P w) P w K mg base ["log"] "format_log" (defScope (top 27)) G.f_format_log cdv A outer s H E).calm = true := rfl
  have nd := (sc_format_log).nd
  have u1 := Room.u1 hr
  have u64 := Room.u64 hr
  have u65 := Room.u65 hr
  have u200 := Room.u200 hr
  exact (bv_cons (sv_expr (ev_call ((ok_require_log G).mono (by decide)) hr g G.m_require_log G.D_require_log.kp (bi_require_log G) (dv := []) .nil tk (xv_val (ev_name (pv 0)) xv_nil)))
 (bv_one (sv_ret (ev_bm PySem.F.plainAttrs_str PySem.F.slot_str_join PySem.F.type_str_join mt_join sr_join ev_str (av_cons (ev_name (pv 0)) av_nil)))))
theorem ok_format_log {P : Program} {w : World} {K : PySem.W.Frag} {mg : Str → Option Value} {base : Heap} (G : Gx K mg) : FnV P w K mg base 4 G.f_format_log G.fd_format_log ["log"] [] (sp_format_log G) := fnv_of G.D_format_log sc_format_log (by decide) (by decide) (b_format_log G) (p_format_log G)
theorem b_write_text {P : Program} {w : World} {K : PySem.W.Frag} {mg : Str → Option Value} {base : Heap} (G : Gx K mg) : BodyV P w K mg base "write_text" (defBody (top 28)) (defScope (top 28)) G.f_write_text ["item"] 0 [] (r_write_text G) := by
  intro cdv A outer s H E hr g tk hp
  have hc : (cxOf (L2.CX P w) P w K mg base ["item"] "write_text" (defScope (top 28)) G.f_write_text cdv A outer s H E).calm = true := rfl
  have nd := (sc_write_text).nd
  have u1 := Room.u1 hr
  have u64 := Room.u64 hr
  have u65 := Room.u65 hr
  have u200 := Room.u200 hr
  exact (bv_one (sv_ret (ev_bop op_addU sr_add.srv (ev_bop op_addU sr_add.srv (ev_ix u1 (ev_name (pv 0)) ev_int) (ev_globS (s := .str "#") G.g_NUMBER_SIGN ⟨_, rfl⟩)) (ev_cty (call_strD u200 g) sr_strD (av_cons (ev_ix u1 (ev_name (pv 0)) ev_int) av_nil) G.n_str PyProof.Rows.boot_str))))
theorem ok_write_text {P : Program} {w : World} {K : PySem.W.Frag} {mg : Str → Option Value} {base : Heap} (G : Gx K mg) : FnV P w K mg base 1 G.f_write_text G.fd_write_text ["item"] [] (sp_write_text G) := fnv_of G.D_write_text sc_write_text (by decide) (by decide) (b_write_text G) (p_write_text G)
theorem b_format_counted {P : Program} {w : World} {K : PySem.W.Frag} {mg : Str → Option Value} {base : Heap} (G : Gx K mg) : BodyV P w K mg base "format_counted" (defBody (top 29)) (defScope (top 29)) G.f_format_counted ["counted", "item"] 4 [] (r_format_counted G) := by
  intro cdv A outer s H E hr g tk hp
  have hc : (cxOf (L2.CX P w) P w K mg base ["counted", "item"] "format_counted" (defScope (top 29)) G.f_format_counted cdv A outer s H E).calm = true := rfl
  have nd := (sc_format_counted).nd
  have u1 := Room.u1 hr
  have u64 := Room.u64 hr
  have u65 := Room.u65 hr
  have u200 := Room.u200 hr
  exact (bv_cons (sv_expr (ev_call ((ok_require_counted G).mono (by decide)) hr g G.m_require_counted G.D_require_counted.kp (bi_require_counted G) (dv := []) .nil tk (xv_val (ev_name (pv 0)) xv_nil)))
 (bv_one (sv_ret (ev_bm PySem.F.plainAttrs_str PySem.F.slot_str_join PySem.F.type_str_join mt_join sr_join ev_str (av_cons (ev_lc (own := [("item", 1)]) hc nd (iv_list (ev_name (pv 0))) (blkOk_by (N := N_format_counted) (sc := defScope (top 29)) (by decide +kernel)) ⟨fun io s H C cl fp ho => (gv_name nd (i := 1) (hio := ho 1 (by decide))), fun s H C cl fp => cv_nil, fun s H C cl fp => (ev_call ((ok_write_text G).mono (by decide)) hr g G.m_write_text G.D_write_text.kp (bi_write_text G) (dv := []) .nil takes0 (xv_val (ev_name (pv 1)) xv_nil))⟩) av_nil)))))
theorem ok_format_counted {P : Program} {w : World} {K : PySem.W.Frag} {mg : Str → Option Value} {base : Heap} (G : Gx K mg) : FnV P w K mg base 5 G.f_format_counted G.fd_format_counted ["counted"] [] (sp_format_counted G) := fnv_of G.D_format_counted sc_format_counted (by decide) (by decide) (b_format_counted G) (p_format_counted G)
theorem b_format_run {P : Program} {w : World} {K : PySem.W.Frag} {mg : Str → Option Value} {base : Heap} (G : Gx K mg) : BodyV P w K mg base "format_run" (defBody (top 30)) (defScope (top 30)) G.f_format_run ["run", "event"] 5 [] (r_format_run G) := by
  intro cdv A outer s H E hr g tk hp
  have hc : (cxOf (L2.CX P w) P w K mg base ["run", "event"] "format_run" (defScope (top 30)) G.f_format_run cdv A outer s H E).calm = true := rfl
  have nd := (sc_format_run).nd
  have u1 := Room.u1 hr
  have u64 := Room.u64 hr
  have u65 := Room.u65 hr
  have u200 := Room.u200 hr
  exact (bv_cons (sv_expr (ev_call ((ok_require_run G).mono (by decide)) hr g G.m_require_run G.D_require_run.kp (bi_require_run G) (dv := []) .nil tk (xv_val (ev_name (pv 0)) xv_nil)))
 (bv_one (sv_ret (ev_bm PySem.F.plainAttrs_str PySem.F.slot_str_join PySem.F.type_str_join mt_join sr_join ev_str (av_cons (ev_lc (own := [("event", 1)]) hc nd (iv_list (ev_name (pv 0))) (blkOk_by (N := N_format_run) (sc := defScope (top 30)) (by decide +kernel)) ⟨fun io s H C cl fp ho => (gv_name nd (i := 1) (hio := ho 1 (by decide))), fun s H C cl fp => cv_nil, fun s H C cl fp => (ev_if (tv_cmp (op_eqW u64) sr_eq.srv (ev_ix u1 (ev_name (pv 1)) ev_int) (ev_globS (s := .str "send") G.g_SEND ⟨_, rfl⟩) (nomark _)) (ev_globS (s := .str "!") G.g_MARK ⟨_, rfl⟩) (ev_bop op_addU sr_add.srv (ev_globS (s := .str "+") G.g_PLUS ⟨_, rfl⟩) (ev_ix u1 (ev_name (pv 1)) ev_int)))⟩) av_nil)))))
theorem ok_format_run {P : Program} {w : World} {K : PySem.W.Frag} {mg : Str → Option Value} {base : Heap} (G : Gx K mg) : FnV P w K mg base 6 G.f_format_run G.fd_format_run ["run"] [] (sp_format_run G) := fnv_of G.D_format_run sc_format_run (by decide) (by decide) (b_format_run G) (p_format_run G)
theorem b_words_of {P : Program} {w : World} {K : PySem.W.Frag} {mg : Str → Option Value} {base : Heap} (G : Gx K mg) : BodyV P w K mg base "words_of" (defBody (top 31)) (defScope (top 31)) G.f_words_of ["text"] 2 [] (r_words_of G) := by
  intro cdv A outer s H E hr g tk hp
  have hc : (cxOf (L2.CX P w) P w K mg base ["text"] "words_of" (defScope (top 31)) G.f_words_of cdv A outer s H E).calm = true := rfl
  have nd := (sc_words_of).nd
  have u1 := Room.u1 hr
  have u64 := Room.u64 hr
  have u65 := Room.u65 hr
  have u200 := Room.u200 hr
  exact (bv_cons (sv_if (tv_not (tv_val (ev_cb call_isi sr_isi (av_cons (ev_name (pv 0)) (av_cons (ev_bltS (s := .ty "str") G.n_str PyProof.Rows.boot_str rfl) av_nil)) G.n_isinstance PyProof.Rows.boot_isinstance)))
 (bv_one (sv_raiseF (f := "position") hc tk G.T_InvalidText G.iC_InvalidText G.tI_InvalidText (okI_InvalidText G) (hr.mono (by decide)) (biI_InvalidText G) pass0 G.mC_InvalidText (av_cons ev_non av_nil)))
 bv_nil)
 (bv_one (sv_ret (ev_if (tv_cmp (op_neW u64) sr_eq.srv (ev_name (pv 0)) ev_str (nomark _)) (ev_bm PySem.F.plainAttrs_str PySem.F.slot_str_split PySem.F.type_str_split mt_split sr_split (ev_name (pv 0)) (av_cons ev_str av_nil)) (ev_lst av_nil)))))
theorem ok_words_of {P : Program} {w : World} {K : PySem.W.Frag} {mg : Str → Option Value} {base : Heap} (G : Gx K mg) : FnV P w K mg base 3 G.f_words_of G.fd_words_of ["text"] [] (sp_words_of G) := fnv_of G.D_words_of sc_words_of (by decide) (by decide) (b_words_of G) (p_words_of G)
theorem b_count_in {P : Program} {w : World} {K : PySem.W.Frag} {mg : Str → Option Value} {base : Heap} (G : Gx K mg) : BodyV P w K mg base "count_in" (defBody (top 32)) (defScope (top 32)) G.f_count_in ["word", "digit"] 0 [] (r_count_in G) := by
  intro cdv A outer s H E hr g tk hp
  have hc : (cxOf (L2.CX P w) P w K mg base ["word", "digit"] "count_in" (defScope (top 32)) G.f_count_in cdv A outer s H E).calm = true := rfl
  have nd := (sc_count_in).nd
  have u1 := Room.u1 hr
  have u64 := Room.u64 hr
  have u65 := Room.u65 hr
  have u200 := Room.u200 hr
  exact (bv_cons (sv_if (tv_w (wv_or (tv_cmp (op_eqW u64) sr_eq.srv (ev_name (pv 0)) ev_str (nomark _)) (wv_or (tv_cmp (op_eqW u64) sr_eq.srv (ev_ix u1 (ev_name (pv 0)) ev_int) ev_str (nomark _)) (wv_or1 (tv_not (tv_val (ev_cb (cr_all hc) sr_all (av_cons (ev_lc (own := [("digit", 1)]) hc nd (iv_str (ev_name (pv 0))) (blkOk_by (N := N_count_in) (sc := defScope (top 32)) (by decide +kernel)) ⟨fun io s H C cl fp ho => (gv_name nd (i := 1) (hio := ho 1 (by decide))), fun s H C cl fp => cv_nil, fun s H C cl fp => (ev_cmp (op_inW u65) sr_inW.srv (ev_name (pv 1)) (ev_globS (s := .str "0123456789") G.g_DIGITS ⟨_, rfl⟩) (by with_unfolding_all rfl))⟩) av_nil) G.n_all PyProof.Rows.boot_all)))))))
 (bv_one (sv_ret ev_non))
 bv_nil)
 (bv_one (sv_ret (ev_cty call_int1U sr_int1 (av_cons (ev_name (pv 0)) av_nil) G.n_int PyProof.Rows.boot_int))))
theorem ok_count_in {P : Program} {w : World} {K : PySem.W.Frag} {mg : Str → Option Value} {base : Heap} (G : Gx K mg) : FnV P w K mg base 1 G.f_count_in G.fd_count_in ["word"] [] (sp_count_in G) := fnv_of G.D_count_in sc_count_in (by decide) (by decide) (b_count_in G) (p_count_in G)
theorem b_parse_log {P : Program} {w : World} {K : PySem.W.Frag} {mg : Str → Option Value} {base : Heap} (G : Gx K mg) : BodyV P w K mg base "parse_log" (defBody (top 33)) (defScope (top 33)) G.f_parse_log ["text", "words", "position", "word"] 3 [] (r_parse_log G) := by
  intro cdv A outer s H E hr g tk hp
  have hc : (cxOf (L2.CX P w) P w K mg base ["text", "words", "position", "word"] "parse_log" (defScope (top 33)) G.f_parse_log cdv A outer s H E).calm = true := rfl
  have nd := (sc_parse_log).nd
  have u1 := Room.u1 hr
  have u64 := Room.u64 hr
  have u65 := Room.u65 hr
  have u200 := Room.u200 hr
  exact (bv_cons (sv_set (i := 1) nd (ev_call ((ok_words_of G).mono (by decide)) hr g G.m_words_of G.D_words_of.kp (bi_words_of G) (dv := []) .nil tk (xv_val (ev_name (pv 0)) xv_nil)))
 (bv_cons (sv_forX hp hc (ivc_enum (av_cons (ev_plN (pv 1)) av_nil) G.n_enumerate) (gv_tup hc (gsv_cons (gv_name nd (i := 2)) (gsv_cons (gv_name nd (i := 3)) gsv_nil)))
 (bv_one (sv_if (tv_not (tv_val (ev_call ((ok_is_key G).mono (by decide)) hr g G.m_is_key G.D_is_key.kp (bi_is_key G) (dv := []) .nil tk (xv_val (ev_name (pv 3)) xv_nil))))
 (bv_one (sv_raiseF (f := "position") hc tk G.T_InvalidText G.iC_InvalidText G.tI_InvalidText (okI_InvalidText G) (hr.mono (by decide)) (biI_InvalidText G) pass0 G.mC_InvalidText (av_cons (ev_name (pv 2)) av_nil)))
 bv_nil)))
 (bv_one (sv_ret (ev_unN (ev_move (pv 1)))))))
theorem ok_parse_log {P : Program} {w : World} {K : PySem.W.Frag} {mg : Str → Option Value} {base : Heap} (G : Gx K mg) : FnV P w K mg base 4 G.f_parse_log G.fd_parse_log ["text"] [] (sp_parse_log G) := fnv_of G.D_parse_log sc_parse_log (by decide) (by decide) (b_parse_log G) (p_parse_log G)
theorem b_parse_counted {P : Program} {w : World} {K : PySem.W.Frag} {mg : Str → Option Value} {base : Heap} (G : Gx K mg) : BodyV P w K mg base "parse_counted" (defBody (top 34)) (defScope (top 34)) G.f_parse_counted ["text", "found", "last", "position", "word", "key", "sign", "digits", "count"] 3 [] (r_parse_counted G) := by
  intro cdv A outer s H E hr g tk hp
  have hc : (cxOf (L2.CX P w) P w K mg base ["text", "found", "last", "position", "word", "key", "sign", "digits", "count"] "parse_counted" (defScope (top 34)) G.f_parse_counted cdv A outer s H E).calm = true := rfl
  have nd := (sc_parse_counted).nd
  have u1 := Room.u1 hr
  have u64 := Room.u64 hr
  have u65 := Room.u65 hr
  have u200 := Room.u200 hr
  exact (bv_cons (sv_set (i := 1) nd (ev_lst av_nil))
 (bv_cons (sv_set (i := 2) nd ev_dnew)
 (bv_cons (sv_for hp hc (iv_enum (av_cons (ev_fz (ev_call ((ok_words_of G).mono (by decide)) hr g G.m_words_of G.D_words_of.kp (bi_words_of G) (dv := []) .nil tk (xv_val (ev_name (pv 0)) xv_nil))) av_nil) G.n_enumerate) (gv_tup hc (gsv_cons (gv_name nd (i := 3)) (gsv_cons (gv_name nd (i := 4)) gsv_nil)))
 (bv_cons (sv_asg (ev_bm PySem.F.plainAttrs_str PySem.F.slot_str_partition PySem.F.type_str_partition mt_partition sr_partition (ev_name (pv 4)) (av_cons (ev_globS (s := .str "#") G.g_NUMBER_SIGN ⟨_, rfl⟩) av_nil)) (gv_tup hc (gsv_cons (gv_name nd (i := 5)) (gsv_cons (gv_name nd (i := 6)) (gsv_cons (gv_name nd (i := 7)) gsv_nil)))))
 (bv_cons (sv_set (i := 8) nd (ev_call ((ok_count_in G).mono (by decide)) hr g G.m_count_in G.D_count_in.kp (bi_count_in G) (dv := []) .nil tk (xv_val (ev_frz (pv 7)) xv_nil)))
 (bv_cons (sv_if (tv_w (wv_or (tv_not (tv_val (ev_call ((ok_is_key G).mono (by decide)) hr g G.m_is_key G.D_is_key.kp (bi_is_key G) (dv := []) .nil tk (xv_val (ev_frz (pv 5)) xv_nil)))) (wv_or (tv_cmp op_isW sr_isN.srv (ev_name (pv 8)) ev_non (nomark _)) (wv_or1 (tv_cmp op_le sr_cmp.srv (ev_name (pv 8)) (ev_dget2 u1 (ev_name (pv 2)) (ev_name (pv 5)) ev_int) (nomark _))))))
 (bv_one (sv_raiseF (f := "position") hc tk G.T_InvalidText G.iC_InvalidText G.tI_InvalidText (okI_InvalidText G) (hr.mono (by decide)) (biI_InvalidText G) pass0 G.mC_InvalidText (av_cons (ev_name (pv 3)) av_nil)))
 bv_nil)
 (bv_cons (sv_expr (ev_mut PySem.F.plainAttrs_list PySem.F.slot_list_append PySem.F.type_list_append mt_append ms_append (pv 1) (av_cons (ev_tup (av_cons (ev_frz (pv 5)) (av_cons (ev_frz (pv 8)) av_nil))) av_nil)))
 (bv_one (sv_asg (ev_frz (pv 8)) (gv_sub (W := fun _ _ _ _ => False) u1 (pv 2) (ev_name (pv 5))))))))))
 (bv_one (sv_ret (ev_move (pv 1)))))))
theorem ok_parse_counted {P : Program} {w : World} {K : PySem.W.Frag} {mg : Str → Option Value} {base : Heap} (G : Gx K mg) : FnV P w K mg base 4 G.f_parse_counted G.fd_parse_counted ["text"] [] (sp_parse_counted G) := fnv_of G.D_parse_counted sc_parse_counted (by decide) (by decide) (b_parse_counted G) (p_parse_counted G)
theorem b_parse_run {P : Program} {w : World} {K : PySem.W.Frag} {mg : Str → Option Value} {base : Heap} (G : Gx K mg) : BodyV P w K mg base "parse_run" (defBody (top 35)) (defScope (top 35)) G.f_parse_run ["text", "found", "waiting", "position", "word", "key"] 3 [] (r_parse_run G) := by
  intro cdv A outer s H E hr g tk hp
  have hc : (cxOf (L2.CX P w) P w K mg base ["text", "found", "waiting", "position", "word", "key"] "parse_run" (defScope (top 35)) G.f_parse_run cdv A outer s H E).calm = true := rfl
  have nd := (sc_parse_run).nd
  have u1 := Room.u1 hr
  have u64 := Room.u64 hr
  have u65 := Room.u65 hr
  have u200 := Room.u200 hr
  exact (bv_cons (sv_set (i := 1) nd (ev_lst av_nil))
 (bv_cons (sv_set (i := 2) nd (ev_lst av_nil))
 (bv_cons (sv_for hp hc (iv_enum (av_cons (ev_fz (ev_call ((ok_words_of G).mono (by decide)) hr g G.m_words_of G.D_words_of.kp (bi_words_of G) (dv := []) .nil tk (xv_val (ev_name (pv 0)) xv_nil))) av_nil) G.n_enumerate) (gv_tup hc (gsv_cons (gv_name nd (i := 3)) (gsv_cons (gv_name nd (i := 4)) gsv_nil)))
 (bv_cons (sv_set (i := 5) nd (ev_sl (ev_name (pv 4)) (ov_some ev_int) ov_none))
 (bv_one (sv_if (tv_w (wv_and (tv_cmp (op_eqW u64) sr_eq.srv (ev_name (pv 4)) (ev_globS (s := .str "!") G.g_MARK ⟨_, rfl⟩) (nomark _)) (wv_and1 (tv_cmp (op_neW u64) sr_eq.srv (ev_name (pv 2)) (ev_lst av_nil) (nomark _)))))
 (bv_cons (sv_expr (ev_mut PySem.F.plainAttrs_list PySem.F.slot_list_pop PySem.F.type_list_pop mt_popAt ms_popAt (pv 2) (av_cons ev_int av_nil)))
 (bv_one (sv_expr (ev_mut PySem.F.plainAttrs_list PySem.F.slot_list_append PySem.F.type_list_append mt_append ms_append (pv 1) (av_cons (ev_tup (av_cons (ev_globS (s := .str "send") G.g_SEND ⟨_, rfl⟩) av_nil)) av_nil)))))
 (bv_one (sv_if (tv_w (wv_and (tv_cmp (op_eqW u64) sr_eq.srv (ev_sl (ev_name (pv 4)) ov_none (ov_some ev_int)) (ev_globS (s := .str "+") G.g_PLUS ⟨_, rfl⟩) (nomark _)) (wv_and1 (tv_val (ev_call ((ok_is_key G).mono (by decide)) hr g G.m_is_key G.D_is_key.kp (bi_is_key G) (dv := []) .nil tk (xv_val (ev_frz (pv 5)) xv_nil))))))
 (bv_cons (sv_if (tv_cmp (op_notInW u65) sr_inW.srv (ev_name (pv 5)) (ev_name (pv 2)) (by with_unfolding_all rfl))
 (bv_one (sv_expr (ev_mut PySem.F.plainAttrs_list PySem.F.slot_list_append PySem.F.type_list_append mt_append ms_append (pv 2) (av_cons (ev_frz (pv 5)) av_nil))))
 bv_nil)
 (bv_one (sv_expr (ev_mut PySem.F.plainAttrs_list PySem.F.slot_list_append PySem.F.type_list_append mt_append ms_append (pv 1) (av_cons (ev_tup (av_cons (ev_globS (s := .str "write") G.g_WRITE ⟨_, rfl⟩) (av_cons (ev_frz (pv 5)) av_nil))) av_nil)))))
 (bv_one (sv_raiseF (f := "position") hc tk G.T_InvalidText G.iC_InvalidText G.tI_InvalidText (okI_InvalidText G) (hr.mono (by decide)) (biI_InvalidText G) pass0 G.mC_InvalidText (av_cons (ev_name (pv 3)) av_nil)))))))))
 (bv_one (sv_ret (ev_move (pv 1)))))))
theorem ok_parse_run {P : Program} {w : World} {K : PySem.W.Frag} {mg : Str → Option Value} {base : Heap} (G : Gx K mg) : FnV P w K mg base 4 G.f_parse_run G.fd_parse_run ["text"] [] (sp_parse_run G) := fnv_of G.D_parse_run sc_parse_run (by decide) (by decide) (b_parse_run G) (p_parse_run G)
theorem b__law_source {P : Program} {w : World} {K : PySem.W.Frag} {mg : Str → Option Value} {base : Heap} (G : Gx K mg) : BodyV P w K mg base "_law_source" (defBody (top 37)) (defScope (top 37)) G.f__law_source ["script", "k", "cell"] 0 [] (r__law_source G) := by
  intro cdv A outer s H E hr g tk hp
  have hc : (cxOf (L2.CX P w) P w K mg base ["script", "k", "cell"] "_law_source" (defScope (top 37)) G.f__law_source cdv A outer s H E).calm = true := rfl
  have nd := (sc__law_source).nd
  have u1 := Room.u1 hr
  have u64 := Room.u64 hr
  have u65 := Room.u65 hr
  have u200 := Room.u200 hr
  exact (bv_cons (sv_set (i := 2) nd ev_int)
 (bv_cons (sv_if (tv_cmp op_lt sr_cmp.srv (ev_name (pv 1)) (ev_cb call_lenU sr_len (av_cons (ev_name (pv 0)) av_nil) G.n_len PySem.boot_len) (nomark _))
 (bv_one (sv_set (i := 2) nd (ev_ix u1 (ev_name (pv 0)) (ev_name (pv 1)))))
 bv_nil)
 (bv_one (sv_ret (ev_lst (av_cons (ev_cb (call_max2 hc) (sr_i2 (f := fun i j => if j > i then j else i)) (av_cons ev_int (av_cons (ev_bop op_sub sr_sub.srv (ev_name (pv 2)) (ev_bop op_powV sr_int.srv ev_int ev_int)) av_nil)) G.n_max PyProof.Rows.boot_max) (av_cons (ev_bop op_addU sr_add.srv (ev_bop op_mod sr_int.srv (ev_name (pv 2)) (ev_bop op_addU sr_add.srv (ev_bop op_powV sr_int.srv ev_int ev_int) ev_int)) (ev_bop op_mulU sr_mul.srv ev_int (ev_bop op_addU sr_add.srv (ev_name (pv 1)) ev_int))) (av_cons ev_int av_nil))))))))
theorem ok__law_source {P : Program} {w : World} {K : PySem.W.Frag} {mg : Str → Option Value} {base : Heap} (G : Gx K mg) : FnV P w K mg base 1 G.f__law_source G.fd__law_source ["script", "k"] [] (sp__law_source G) := fnv_of G.D__law_source sc__law_source (by decide) (by decide) (b__law_source G) (p__law_source G)
theorem b__law_draw {P : Program} {w : World} {K : PySem.W.Frag} {mg : Str → Option Value} {base : Heap} (G : Gx K mg) : BodyV P w K mg base "_law_draw" (defBody (top 38)) (defScope (top 38)) G.f__law_draw ["source", "limit", "found", "mixed"] 0 [0] (r__law_draw G) := by
  intro cdv A outer s H E hr g tk hp
  have hc : (cxOf (L2.CX P w) P w K mg base ["source", "limit", "found", "mixed"] "_law_draw" (defScope (top 38)) G.f__law_draw cdv A outer s H E).calm = true := rfl
  have nd := (sc__law_draw).nd
  have u1 := Room.u1 hr
  have u64 := Room.u64 hr
  have u65 := Room.u65 hr
  have u200 := Room.u200 hr
  exact (bv_cons (sv_if (tv_cmp op_gt sr_cmp.srv (ev_ix u1 (ev_name (pv 0)) ev_int) ev_int (nomark _))
 (bv_cons (sv_set (i := 2) nd (ev_bop op_mod sr_int.srv (ev_ix u1 (ev_name (pv 0)) ev_int) (ev_name (pv 1))))
 (bv_cons (sv_asg (ev_bop op_fdivW sr_int.srv (ev_ix u1 (ev_name (pv 0)) ev_int) (ev_name (pv 1))) (gv_sub (W := fun _ _ _ _ => False) u1 (pv 0) ev_int))
 (bv_one (sv_ret (ev_move (pv 2))))))
 bv_nil)
 (bv_cons (sv_asg (ev_bop op_addU sr_add.srv (ev_ix u1 (ev_name (pv 0)) ev_int) ev_int) (gv_sub (W := fun _ _ _ _ => False) u1 (pv 0) ev_int))
 (bv_cons (sv_set (i := 3) nd (ev_bop op_mod sr_int.srv (ev_bop op_powV sr_int.srv (ev_bop op_addU sr_add.srv (ev_ix u1 (ev_name (pv 0)) ev_int) (ev_bop op_mulU sr_mul.srv ev_int (ev_ix u1 (ev_name (pv 0)) ev_int))) ev_int) (ev_bop op_addU sr_add.srv (ev_bop op_powV sr_int.srv ev_int ev_int) ev_int)))
 (bv_cons (sv_set (i := 3) nd (ev_bop op_mod sr_int.srv (ev_bop op_powV sr_int.srv (ev_bop op_addU sr_add.srv (ev_name (pv 3)) (ev_bop op_mulU sr_mul.srv ev_int (ev_ix u1 (ev_name (pv 0)) ev_int))) ev_int) (ev_bop op_addU sr_add.srv (ev_bop op_powV sr_int.srv ev_int ev_int) ev_int)))
 (bv_one (sv_ret (ev_bop op_mod sr_int.srv (ev_bop op_fdivW sr_int.srv (ev_name (pv 3)) ev_int) (ev_name (pv 1)))))))))
theorem ok__law_draw {P : Program} {w : World} {K : PySem.W.Frag} {mg : Str → Option Value} {base : Heap} (G : Gx K mg) : FnV P w K mg base 1 G.f__law_draw G.fd__law_draw ["source", "limit"] [0] (sp__law_draw G) := fnv_of G.D__law_draw sc__law_draw (by decide) (by decide) (b__law_draw G) (p__law_draw G)
theorem b__law_some {P : Program} {w : World} {K : PySem.W.Frag} {mg : Str → Option Value} {base : Heap} (G : Gx K mg) : BodyV P w K mg base "_law_some" (defBody (top 39)) (defScope (top 39)) G.f__law_some ["source", "things", "many", "left", "k"] 1 [0] (r__law_some G) := by
  intro cdv A outer s H E hr g tk hp
  have hc : (cxOf (L2.CX P w) P w K mg base ["source", "things", "many", "left", "k"] "_law_some" (defScope (top 39)) G.f__law_some cdv A outer s H E).calm = true := rfl
  have nd := (sc__law_some).nd
  have u1 := Room.u1 hr
  have u64 := Room.u64 hr
  have u65 := Room.u65 hr
  have u200 := Room.u200 hr
  exact (bv_cons (sv_set (i := 3) nd (ev_cty call_list_of sr_list1 (av_cons (ev_name (pv 1)) av_nil) G.n_list PyProof.Rows.boot_list))
 (bv_one (sv_ret (ev_lc (own := [("k", 4)]) hc nd (iv_range1 (av_cons (ev_name (pv 2)) av_nil) G.n_range) (blkOk_by (N := N__law_some) (sc := defScope (top 39)) (by decide +kernel)) ⟨fun io s H C cl fp ho => (gv_name nd (i := 4) (hio := ho 4 (by decide))), fun s H C cl fp => cv_nil, fun s H C cl fp => (ev_mut PySem.F.plainAttrs_list PySem.F.slot_list_pop PySem.F.type_list_pop mt_popAt ms_popAt (pv 3) (av_cons (ev_call ((ok__law_draw G).mono (by decide)) hr g G.m__law_draw G.D__law_draw.kp (bi__law_draw G) (dv := []) .nil takes0 (xv_lent (pv 0) (xv_val (ev_cb call_lenU sr_len (av_cons (ev_name (pv 3)) av_nil) G.n_len PySem.boot_len) xv_nil))) av_nil))⟩))))
theorem ok__law_some {P : Program} {w : World} {K : PySem.W.Frag} {mg : Str → Option Value} {base : Heap} (G : Gx K mg) : FnV P w K mg base 2 G.f__law_some G.fd__law_some ["source", "things", "many"] [0] (sp__law_some G) := fnv_of G.D__law_some sc__law_some (by decide) (by decide) (b__law_some G) (p__law_some G)
theorem b__law_keys {P : Program} {w : World} {K : PySem.W.Frag} {mg : Str → Option Value} {base : Heap} (G : Gx K mg) : BodyV P w K mg base "_law_keys" (defBody (top 40)) (defScope (top 40)) G.f__law_keys ["source", "many", "words", "number"] 2 [0] (r__law_keys G) := by
  intro cdv A outer s H E hr g tk hp
  have hc : (cxOf (L2.CX P w) P w K mg base ["source", "many", "words", "number"] "_law_keys" (defScope (top 40)) G.f__law_keys cdv A outer s H E).calm = true := rfl
  have nd := (sc__law_keys).nd
  have u1 := Room.u1 hr
  have u64 := Room.u64 hr
  have u65 := Room.u65 hr
  have u200 := Room.u200 hr
  exact (bv_cons (sv_set (i := 2) nd (ev_lst (av_cons ev_str (av_cons ev_str (av_cons ev_str (av_cons ev_str (av_cons ev_str (av_cons (ev_bop op_mulU sr_mul.srv ev_str ev_int) (av_cons ev_str (av_cons ev_str (av_cons ev_str (av_cons ev_str (av_cons ev_str (av_cons ev_str (av_cons ev_str (av_cons ev_str (av_cons ev_str av_nil)))))))))))))))))
 (bv_one (sv_ret (ev_call ((ok__law_some G).mono (by decide)) hr g G.m__law_some G.D__law_some.kp (bi__law_some G) (dv := []) .nil tk (xv_lent (pv 0) (xv_val (ev_bopN op_addU sr_add.srv (pv 2) (ev_lc (own := [("number", 3)]) hc nd (iv_range1 (av_cons ev_int av_nil) G.n_range) (blkOk_by (N := N__law_keys) (sc := defScope (top 40)) (by decide +kernel)) ⟨fun io s H C cl fp ho => (gv_name nd (i := 3) (hio := ho 3 (by decide))), fun s H C cl fp => cv_nil, fun s H C cl fp => (ev_bop op_addU sr_add.srv ev_str (ev_cty (call_strD u200 g) sr_strD (av_cons (ev_name (pv 3)) av_nil) G.n_str PyProof.Rows.boot_str))⟩)) (xv_val (ev_name (pv 1)) xv_nil)))))))
theorem ok__law_keys {P : Program} {w : World} {K : PySem.W.Frag} {mg : Str → Option Value} {base : Heap} (G : Gx K mg) : FnV P w K mg base 3 G.f__law_keys G.fd__law_keys ["source", "many"] [0] (sp__law_keys G) := fnv_of G.D__law_keys sc__law_keys (by decide) (by decide) (b__law_keys G) (p__law_keys G)
theorem b__law_log {P : Program} {w : World} {K : PySem.W.Frag} {mg : Str → Option Value} {base : Heap} (G : Gx K mg) : BodyV P w K mg base "_law_log" (defBody (top 41)) (defScope (top 41)) G.f__law_log ["source", "keys", "many", "way", "found", "item", "key"] 1 [0] (r__law_log G) := by
  intro cdv A outer s H E hr g tk hp
  have hc : (cxOf (L2.CX P w) P w K mg base ["source", "keys", "many", "way", "found", "item", "key"] "_law_log" (defScope (top 41)) G.f__law_log cdv A outer s H E).calm = true := rfl
  have nd := (sc__law_log).nd
  have u1 := Room.u1 hr
  have u64 := Room.u64 hr
  have u65 := Room.u65 hr
  have u200 := Room.u200 hr
  exact (bv_cons (sv_par (i := 3) (j := 4) hc nd (av_cons (ev_call ((ok__law_draw G).mono (by decide)) hr g G.m__law_draw G.D__law_draw.kp (bi__law_draw G) (dv := []) .nil tk (xv_lent (pv 0) (xv_val ev_int xv_nil))) (av_cons (ev_lst av_nil) av_nil)))
 (bv_cons (sv_for hp hc (iv_range1 (av_cons (ev_name (pv 2)) av_nil) G.n_range) (gv_name nd (i := 5))
 (bv_cons (sv_set (i := 6) nd (ev_ixN u1 (pv 1) (ev_call ((ok__law_draw G).mono (by decide)) hr g G.m__law_draw G.D__law_draw.kp (bi__law_draw G) (dv := []) .nil tk (xv_lent (pv 0) (xv_val (ev_cb call_lenU sr_len (av_cons (ev_name (pv 1)) av_nil) G.n_len PySem.boot_len) xv_nil)))))
 (bv_cons (sv_if (tv_w (wv_and (tv_cmp (op_eqW u64) sr_eq.srv (ev_name (pv 3)) ev_int (nomark _)) (wv_and1 (tv_cmp op_gt sr_cmp.srv (ev_call ((ok__law_draw G).mono (by decide)) hr g G.m__law_draw G.D__law_draw.kp (bi__law_draw G) (dv := []) .nil tk (xv_lent (pv 0) (xv_val ev_int xv_nil))) ev_int (nomark _)))))
 (bv_one (sv_set (i := 6) nd (ev_ix u1 (ev_name (pv 1)) (ev_bop op_mod sr_int.srv (ev_name (pv 5)) (ev_cb call_lenU sr_len (av_cons (ev_name (pv 1)) av_nil) G.n_len PySem.boot_len)))))
 bv_nil)
 (bv_cons (sv_if (tv_w (wv_and (tv_cmp (op_eqW u64) sr_eq.srv (ev_name (pv 3)) ev_int (nomark _)) (wv_and (tv_cmp (op_neW u64) sr_eq.srv (ev_name (pv 4)) (ev_lst av_nil) (nomark _)) (wv_and1 (tv_cmp op_gt sr_cmp.srv (ev_call ((ok__law_draw G).mono (by decide)) hr g G.m__law_draw G.D__law_draw.kp (bi__law_draw G) (dv := []) .nil tk (xv_lent (pv 0) (xv_val ev_int xv_nil))) ev_int (nomark _))))))
 (bv_one (sv_set (i := 6) nd (ev_ix u1 (ev_name (pv 4)) (ev_un un_neg sr_neg.srv ev_int))))
 bv_nil)
 (bv_cons (sv_if (tv_w (wv_and (tv_cmp (op_eqW u64) sr_eq.srv (ev_name (pv 3)) ev_int (nomark _)) (wv_and1 (tv_cmp op_gt sr_cmp.srv (ev_cb call_lenU sr_len (av_cons (ev_name (pv 4)) av_nil) G.n_len PySem.boot_len) ev_int (nomark _)))))
 (bv_one (sv_set (i := 6) nd (ev_ixN u1 (pv 1) (ev_bop op_mod sr_int.srv (ev_bop op_addU sr_add.srv ev_int (ev_bm PySem.F.plainAttrs_list PySem.F.slot_list_index PySem.F.type_list_index mt_index sr_index (ev_name (pv 1)) (av_cons (ev_ixN u1 (pv 4) (ev_bop op_sub sr_sub.srv (ev_un un_neg sr_neg.srv ev_int) (ev_call ((ok__law_draw G).mono (by decide)) hr g G.m__law_draw G.D__law_draw.kp (bi__law_draw G) (dv := []) .nil tk (xv_lent (pv 0) (xv_val ev_int xv_nil))))) av_nil))) (ev_cb call_lenU sr_len (av_cons (ev_name (pv 1)) av_nil) G.n_len PySem.boot_len)))))
 bv_nil)
 (bv_one (sv_expr (ev_mut PySem.F.plainAttrs_list PySem.F.slot_list_append PySem.F.type_list_append mt_append ms_append (pv 4) (av_cons (ev_frz (pv 6)) av_nil)))))))))
 (bv_one (sv_ret (ev_move (pv 4))))))
theorem ok__law_log {P : Program} {w : World} {K : PySem.W.Frag} {mg : Str → Option Value} {base : Heap} (G : Gx K mg) : FnV P w K mg base 2 G.f__law_log G.fd__law_log ["source", "keys", "many"] [0] (sp__law_log G) := fnv_of G.D__law_log sc__law_log (by decide) (by decide) (b__law_log G) (p__law_log G)
theorem b__law_run {P : Program} {w : World} {K : PySem.W.Frag} {mg : Str → Option Value} {base : Heap} (G : Gx K mg) : BodyV P w K mg base "_law_run" (defBody (top 42)) (defScope (top 42)) G.f__law_run ["source", "keys", "many", "found", "waiting", "often", "turn", "key"] 1 [0] (r__law_run G) := by
  intro cdv A outer s H E hr g tk hp
  have hc : (cxOf (L2.CX P w) P w K mg base ["source", "keys", "many", "found", "waiting", "often", "turn", "key"] "_law_run" (defScope (top 42)) G.f__law_run cdv A outer s H E).calm = true := rfl
  have nd := (sc__law_run).nd
  have u1 := Room.u1 hr
  have u64 := Room.u64 hr
  have u65 := Room.u65 hr
  have u200 := Room.u200 hr
  exact (bv_cons (sv_par3 (i := 3) (j := 4) (l := 5) hc nd (av_cons (ev_lst av_nil) (av_cons (ev_lst av_nil) (av_cons (ev_bop op_addU sr_add.srv ev_int (ev_call ((ok__law_draw G).mono (by decide)) hr g G.m__law_draw G.D__law_draw.kp (bi__law_draw G) (dv := []) .nil tk (xv_lent (pv 0) (xv_val ev_int xv_nil)))) av_nil))))
 (bv_cons (sv_for hp hc (iv_range1 (av_cons (ev_name (pv 2)) av_nil) G.n_range) (gv_name nd (i := 6))
 (bv_one (sv_if (tv_w (wv_and (tv_cmp (op_neW u64) sr_eq.srv (ev_name (pv 4)) (ev_lst av_nil) (nomark _)) (wv_and1 (tv_cmp (op_eqW u64) sr_eq.srv (ev_call ((ok__law_draw G).mono (by decide)) hr g G.m__law_draw G.D__law_draw.kp (bi__law_draw G) (dv := []) .nil tk (xv_lent (pv 0) (xv_val (ev_frz (pv 5)) xv_nil))) ev_int (nomark _)))))
 (bv_cons (sv_expr (ev_mut PySem.F.plainAttrs_list PySem.F.slot_list_pop PySem.F.type_list_pop mt_popAt ms_popAt (pv 4) (av_cons ev_int av_nil)))
 (bv_one (sv_expr (ev_mut PySem.F.plainAttrs_list PySem.F.slot_list_append PySem.F.type_list_append mt_append ms_append (pv 3) (av_cons (ev_tup (av_cons ev_str av_nil)) av_nil)))))
 (bv_cons (sv_set (i := 7) nd (ev_ixN u1 (pv 1) (ev_call ((ok__law_draw G).mono (by decide)) hr g G.m__law_draw G.D__law_draw.kp (bi__law_draw G) (dv := []) .nil tk (xv_lent (pv 0) (xv_val (ev_cb call_lenU sr_len (av_cons (ev_name (pv 1)) av_nil) G.n_len PySem.boot_len) xv_nil)))))
 (bv_cons (sv_expr (ev_mut PySem.F.plainAttrs_list PySem.F.slot_list_append PySem.F.type_list_append mt_append ms_append (pv 3) (av_cons (ev_tup (av_cons ev_str (av_cons (ev_frz (pv 7)) av_nil))) av_nil)))
 (bv_one (sv_if (tv_cmp (op_notInW u65) sr_inW.srv (ev_name (pv 7)) (ev_name (pv 4)) (by with_unfolding_all rfl))
 (bv_one (sv_expr (ev_mut PySem.F.plainAttrs_list PySem.F.slot_list_append PySem.F.type_list_append mt_append ms_append (pv 4) (av_cons (ev_frz (pv 7)) av_nil))))
 bv_nil)))))))
 (bv_one (sv_ret (ev_move (pv 3))))))
theorem ok__law_run {P : Program} {w : World} {K : PySem.W.Frag} {mg : Str → Option Value} {base : Heap} (G : Gx K mg) : FnV P w K mg base 2 G.f__law_run G.fd__law_run ["source", "keys", "many"] [0] (sp__law_run G) := fnv_of G.D__law_run sc__law_run (by decide) (by decide) (b__law_run G) (p__law_run G)
theorem b__law_counted {P : Program} {w : World} {K : PySem.W.Frag} {mg : Str → Option Value} {base : Heap} (G : Gx K mg) : BodyV P w K mg base "_law_counted" (defBody (top 43)) (defScope (top 43)) G.f__law_counted ["source", "log", "found", "last", "step", "key", "count"] 1 [0] (r__law_counted G) := by
  intro cdv A outer s H E hr g tk hp
  have hc : (cxOf (L2.CX P w) P w K mg base ["source", "log", "found", "last", "step", "key", "count"] "_law_counted" (defScope (top 43)) G.f__law_counted cdv A outer s H E).calm = true := rfl
  have nd := (sc__law_counted).nd
  have u1 := Room.u1 hr
  have u64 := Room.u64 hr
  have u65 := Room.u65 hr
  have u200 := Room.u200 hr
  exact (bv_cons (sv_par3 (i := 2) (j := 3) (l := 4) hc nd (av_cons (ev_lst av_nil) (av_cons ev_dnew (av_cons (ev_ix u1 (ev_lst (av_cons ev_int (av_cons ev_int (av_cons (ev_bop op_powV sr_int.srv ev_int ev_int) (av_cons (ev_bop op_powV sr_int.srv ev_int ev_int) av_nil))))) (ev_call ((ok__law_draw G).mono (by decide)) hr g G.m__law_draw G.D__law_draw.kp (bi__law_draw G) (dv := []) .nil tk (xv_lent (pv 0) (xv_val ev_int xv_nil)))) av_nil))))
 (bv_cons (sv_for hp hc (iv_list (ev_name (pv 1))) (gv_name nd (i := 5))
 (bv_cons (sv_set (i := 6) nd (ev_bop op_addU sr_add.srv (ev_bop op_addU sr_add.srv (ev_dget2 u1 (ev_name (pv 3)) (ev_name (pv 5)) ev_int) ev_int) (ev_call ((ok__law_draw G).mono (by decide)) hr g G.m__law_draw G.D__law_draw.kp (bi__law_draw G) (dv := []) .nil tk (xv_lent (pv 0) (xv_val (ev_frz (pv 4)) xv_nil)))))
 (bv_cons (sv_asg (ev_frz (pv 6)) (gv_sub (W := fun _ _ _ _ => False) u1 (pv 3) (ev_name (pv 5))))
 (bv_one (sv_expr (ev_mut PySem.F.plainAttrs_list PySem.F.slot_list_append PySem.F.type_list_append mt_append ms_append (pv 2) (av_cons (ev_tup (av_cons (ev_name (pv 5)) (av_cons (ev_frz (pv 6)) av_nil))) av_nil)))))))
 (bv_one (sv_ret (ev_move (pv 2))))))
theorem ok__law_counted {P : Program} {w : World} {K : PySem.W.Frag} {mg : Str → Option Value} {base : Heap} (G : Gx K mg) : FnV P w K mg base 2 G.f__law_counted G.fd__law_counted ["source", "log"] [0] (sp__law_counted G) := fnv_of G.D__law_counted sc__law_counted (by decide) (by decide) (b__law_counted G) (p__law_counted G)
theorem b__law_text {P : Program} {w : World} {K : PySem.W.Frag} {mg : Str → Option Value} {base : Heap} (G : Gx K mg) : BodyV P w K mg base "_law_text" (defBody (top 44)) (defScope (top 44)) G.f__law_text ["kind", "value", "key", "count", "event"] 0 [] (r__law_text G) := by
  intro cdv A outer s H E hr g tk hp
  have hc : (cxOf (L2.CX P w) P w K mg base ["kind", "value", "key", "count", "event"] "_law_text" (defScope (top 44)) G.f__law_text cdv A outer s H E).calm = true := rfl
  have nd := (sc__law_text).nd
  have u1 := Room.u1 hr
  have u64 := Room.u64 hr
  have u65 := Room.u65 hr
  have u200 := Room.u200 hr
  exact (bv_cons (sv_if (tv_cmp (op_eqW u64) sr_eq.srv (ev_name (pv 0)) ev_int (nomark _))
 (bv_one (sv_ret (ev_bm PySem.F.plainAttrs_str PySem.F.slot_str_join PySem.F.type_str_join mt_join sr_join ev_str (av_cons (ev_name (pv 1)) av_nil))))
 bv_nil)
 (bv_cons (sv_if (tv_cmp (op_eqW u64) sr_eq.srv (ev_name (pv 0)) ev_int (nomark _))
 (bv_one (sv_ret (ev_bm PySem.F.plainAttrs_str PySem.F.slot_str_join PySem.F.type_str_join mt_join sr_join ev_str (av_cons (ev_lc (own := [("key", 2), ("count", 3)]) hc nd (iv_list (ev_name (pv 1))) (blkOk_by (N := N__law_text) (sc := defScope (top 44)) (by decide +kernel)) ⟨fun io s H C cl fp ho => (gv_tup hc (gsv_cons (gv_name nd (i := 2) (hio := ho 2 (by decide))) (gsv_cons (gv_name nd (i := 3) (hio := ho 3 (by decide))) gsv_nil))), fun s H C cl fp => cv_nil, fun s H C cl fp => (ev_bop op_addU sr_add.srv (ev_bop op_addU sr_add.srv (ev_name (pv 2)) ev_str) (ev_cty (call_strD u200 g) sr_strD (av_cons (ev_name (pv 3)) av_nil) G.n_str PyProof.Rows.boot_str))⟩) av_nil))))
 bv_nil)
 (bv_one (sv_ret (ev_bm PySem.F.plainAttrs_str PySem.F.slot_str_join PySem.F.type_str_join mt_join sr_join ev_str (av_cons (ev_lc (own := [("event", 4)]) hc nd (iv_list (ev_name (pv 1))) (blkOk_by (N := N__law_text) (sc := defScope (top 44)) (by decide +kernel)) ⟨fun io s H C cl fp ho => (gv_name nd (i := 4) (hio := ho 4 (by decide))), fun s H C cl fp => cv_nil, fun s H C cl fp => (ev_if (tv_cmp (op_eqW u64) sr_eq.srv (ev_name (pv 4)) (ev_tup (av_cons ev_str av_nil)) (nomark _)) ev_str (ev_bop op_addU sr_add.srv ev_str (ev_ix u1 (ev_name (pv 4)) ev_int)))⟩) av_nil))))))
theorem ok__law_text {P : Program} {w : World} {K : PySem.W.Frag} {mg : Str → Option Value} {base : Heap} (G : Gx K mg) : FnV P w K mg base 1 G.f__law_text G.fd__law_text ["kind", "value"] [] (sp__law_text G) := fnv_of G.D__law_text sc__law_text (by decide) (by decide) (b__law_text G) (p__law_text G)
theorem b__law_written {P : Program} {w : World} {K : PySem.W.Frag} {mg : Str → Option Value} {base : Heap} (G : Gx K mg) : BodyV P w K mg base "_law_written" (defBody (top 45)) (defScope (top 45)) G.f__law_written ["kind", "value"] 6 [] (r__law_written G) := by
  intro cdv A outer s H E hr g tk hp
  have hc : (cxOf (L2.CX P w) P w K mg base ["kind", "value"] "_law_written" (defScope (top 45)) G.f__law_written cdv A outer s H E).calm = true := rfl
  have nd := (sc__law_written).nd
  have u1 := Room.u1 hr
  have u64 := Room.u64 hr
  have u65 := Room.u65 hr
  have u200 := Room.u200 hr
  exact (bv_one (sv_ret (ev_callX (k := 6) (tab := [(G.f_format_log, sp_format_log G), (G.f_format_counted, sp_format_counted G), (G.f_format_run, sp_format_run G)]) (by intro q hq; simp only [List.mem_cons, List.not_mem_nil, or_false] at hq; rcases hq with rfl | rfl | rfl <;> first | exact ⟨_, _, (ok_format_log G).mono (by decide), rfl, G.D_format_log.kp, bi_format_log G⟩ | exact ⟨_, _, (ok_format_counted G).mono (by decide), rfl, G.D_format_counted.kp, bi_format_counted G⟩ | exact ⟨_, _, (ok_format_run G).mono (by decide), rfl, G.D_format_run.kp, bi_format_run G⟩) hr g tk (ev_ix u1 (ev_lst (av_cons (ev_globS (s := .adr G.f_format_log) G.m_format_log rfl) (av_cons (ev_globS (s := .adr G.f_format_counted) G.m_format_counted rfl) (av_cons (ev_globS (s := .adr G.f_format_run) G.m_format_run rfl) av_nil)))) (ev_name (pv 0))) (xv_val (ev_name (pv 1)) xv_nil))))
theorem ok__law_written {P : Program} {w : World} {K : PySem.W.Frag} {mg : Str → Option Value} {base : Heap} (G : Gx K mg) : FnV P w K mg base 7 G.f__law_written G.fd__law_written ["kind", "value"] [] (sp__law_written G) := fnv_of G.D__law_written sc__law_written (by decide) (by decide) (b__law_written G) (p__law_written G)
theorem b__law_read {P : Program} {w : World} {K : PySem.W.Frag} {mg : Str → Option Value} {base : Heap} (G : Gx K mg) : BodyV P w K mg base "_law_read" (defBody (top 46)) (defScope (top 46)) G.f__law_read ["kind", "text"] 4 [] (r__law_read G) := by
  intro cdv A outer s H E hr g tk hp
  have hc : (cxOf (L2.CX P w) P w K mg base ["kind", "text"] "_law_read" (defScope (top 46)) G.f__law_read cdv A outer s H E).calm = true := rfl
  have nd := (sc__law_read).nd
  have u1 := Room.u1 hr
  have u64 := Room.u64 hr
  have u65 := Room.u65 hr
  have u200 := Room.u200 hr
  exact (bv_one (sv_ret (ev_callX (k := 4) (tab := [(G.f_parse_log, sp_parse_log G), (G.f_parse_counted, sp_parse_counted G), (G.f_parse_run, sp_parse_run G)]) (by intro q hq; simp only [List.mem_cons, List.not_mem_nil, or_false] at hq; rcases hq with rfl | rfl | rfl <;> first | exact ⟨_, _, (ok_parse_log G).mono (by decide), rfl, G.D_parse_log.kp, bi_parse_log G⟩ | exact ⟨_, _, (ok_parse_counted G).mono (by decide), rfl, G.D_parse_counted.kp, bi_parse_counted G⟩ | exact ⟨_, _, (ok_parse_run G).mono (by decide), rfl, G.D_parse_run.kp, bi_parse_run G⟩) hr g tk (ev_ix u1 (ev_lst (av_cons (ev_globS (s := .adr G.f_parse_log) G.m_parse_log rfl) (av_cons (ev_globS (s := .adr G.f_parse_counted) G.m_parse_counted rfl) (av_cons (ev_globS (s := .adr G.f_parse_run) G.m_parse_run rfl) av_nil)))) (ev_name (pv 0))) (xv_val (ev_name (pv 1)) xv_nil))))
theorem ok__law_read {P : Program} {w : World} {K : PySem.W.Frag} {mg : Str → Option Value} {base : Heap} (G : Gx K mg) : FnV P w K mg base 5 G.f__law_read G.fd__law_read ["kind", "text"] [] (sp__law_read G) := fnv_of G.D__law_read sc__law_read (by decide) (by decide) (b__law_read G) (p__law_read G)
theorem b__law_right {P : Program} {w : World} {K : PySem.W.Frag} {mg : Str → Option Value} {base : Heap} (G : Gx K mg) : BodyV P w K mg base "_law_right" (defBody (top 47)) (defScope (top 47)) G.f__law_right ["kind", "value", "kept", "text", "turn", "found"] 7 [] (r__law_right G) := by
  intro cdv A outer s H E hr g tk hp
  have hc : (cxOf (L2.CX P w) P w K mg base ["kind", "value", "kept", "text", "turn", "found"] "_law_right" (defScope (top 47)) G.f__law_right cdv A outer s H E).calm = true := rfl
  have nd := (sc__law_right).nd
  have u1 := Room.u1 hr
  have u64 := Room.u64 hr
  have u65 := Room.u65 hr
  have u200 := Room.u200 hr
  exact (bv_cons (sv_par (i := 2) (j := 3) hc nd (av_cons (ev_cb (call_reprD u200 g) sr_reprD (av_cons (ev_name (pv 1)) av_nil) G.n_repr PyProof.Rows.boot_repr) (av_cons (ev_call ((ok__law_text G).mono (by decide)) hr g G.m__law_text G.D__law_text.kp (bi__law_text G) (dv := []) .nil tk (xv_val (ev_name (pv 0)) (xv_val (ev_name (pv 1)) xv_nil))) av_nil)))
 (bv_cons (sv_if (tv_w (wv_or (tv_cmp (op_neW u64) sr_eq.srv (ev_cb (call_reprD u200 g) sr_reprD (av_cons (ev_call ((ok__law_written G).mono (by decide)) hr g G.m__law_written G.D__law_written.kp (bi__law_written G) (dv := []) .nil tk (xv_val (ev_name (pv 0)) (xv_val (ev_name (pv 1)) xv_nil))) av_nil) G.n_repr PyProof.Rows.boot_repr) (ev_cb (call_reprD u200 g) sr_reprD (av_cons (ev_name (pv 3)) av_nil) G.n_repr PyProof.Rows.boot_repr) (nomark _)) (wv_or1 (tv_cmp (op_neW u64) sr_eq.srv (ev_cb (call_reprD u200 g) sr_reprD (av_cons (ev_name (pv 1)) av_nil) G.n_repr PyProof.Rows.boot_repr) (ev_name (pv 2)) (nomark _)))))
 (bv_one (sv_ret ev_bl))
 bv_nil)
 (bv_cons (sv_for hp hc (iv_range1 (av_cons ev_int av_nil) G.n_range) (gv_name nd (i := 4))
 (bv_cons (sv_set (i := 5) nd (ev_call ((ok__law_read G).mono (by decide)) hr g G.m__law_read G.D__law_read.kp (bi__law_read G) (dv := []) .nil tk (xv_val (ev_name (pv 0)) (xv_val (ev_frz (pv 3)) xv_nil))))
 (bv_cons (sv_if (tv_cmp (op_neW u64) sr_eq.srv (ev_cb (call_reprD u200 g) sr_reprD (av_cons (ev_name (pv 5)) av_nil) G.n_repr PyProof.Rows.boot_repr) (ev_name (pv 2)) (nomark _))
 (bv_one (sv_ret ev_bl))
 bv_nil)
 (bv_one (sv_expr (ev_mut PySem.F.plainAttrs_list PySem.F.slot_list_append PySem.F.type_list_append mt_append ms_append (pv 5) (av_cons ev_non av_nil)))))))
 (bv_one (sv_ret ev_bl)))))
theorem ok__law_right {P : Program} {w : World} {K : PySem.W.Frag} {mg : Str → Option Value} {base : Heap} (G : Gx K mg) : FnV P w K mg base 8 G.f__law_right G.fd__law_right ["kind", "value"] [] (sp__law_right G) := fnv_of G.D__law_right sc__law_right (by decide) (by decide) (b__law_right G) (p__law_right G)
theorem b_law {P : Program} {w : World} {K : PySem.W.Frag} {mg : Str → Option Value} {base : Heap} (G : Gx K mg) : BodyV P w K mg base "law" (defBody (top 48)) (defScope (top 48)) G.f_law ["script", "k", "source", "keys", "turn", "most", "many", "some", "log", "values", "kind", "value"] 8 [] (r_law G) := by
  intro cdv A outer s H E hr g tk hp
  have hc : (cxOf (L2.CX P w) P w K mg base ["script", "k", "source", "keys", "turn", "most", "many", "some", "log", "values", "kind", "value"] "law" (defScope (top 48)) G.f_law cdv A outer s H E).calm = true := rfl
  have nd := (sc_law).nd
  have u1 := Room.u1 hr
  have u64 := Room.u64 hr
  have u65 := Room.u65 hr
  have u200 := Room.u200 hr
  exact (bv_cons (sv_for hp hc (iv_range1 (av_cons (ev_cb (call_max2 hc) (sr_i2 (f := fun i j => if j > i then j else i)) (av_cons ev_int (av_cons (ev_cb (call_min2 hc) (sr_i2 (f := fun i j => if j < i then j else i)) (av_cons ev_int (av_cons (ev_cb call_lenU sr_len (av_cons (ev_name (pv 0)) av_nil) G.n_len PySem.boot_len) av_nil)) G.n_min PyProof.Rows.boot_min) av_nil)) G.n_max PyProof.Rows.boot_max) av_nil) G.n_range) (gv_name nd (i := 1))
 (bv_cons (sv_set (i := 2) nd (ev_call ((ok__law_source G).mono (by decide)) hr g G.m__law_source G.D__law_source.kp (bi__law_source G) (dv := []) .nil tk (xv_val (ev_name (pv 0)) (xv_val (ev_name (pv 1)) xv_nil))))
 (bv_cons (sv_set (i := 3) nd (ev_call ((ok__law_keys G).mono (by decide)) hr g G.m__law_keys G.D__law_keys.kp (bi__law_keys G) (dv := []) .nil tk (xv_lent (pv 2) (xv_val (ev_bop op_addU sr_add.srv ev_int (ev_call ((ok__law_draw G).mono (by decide)) hr g G.m__law_draw G.D__law_draw.kp (bi__law_draw G) (dv := []) .nil tk (xv_lent (pv 2) (xv_val ev_int xv_nil)))) xv_nil))))
 (bv_one (sv_for hp hc (iv_range1 (av_cons ev_int av_nil) G.n_range) (gv_name nd (i := 4))
 (bv_cons (sv_asg (ev_ix u1 (ev_lst (av_cons (ev_tup (av_cons ev_int (av_cons ev_int av_nil))) (av_cons (ev_tup (av_cons ev_int (av_cons ev_int av_nil))) av_nil))) (ev_bop op_mulU sr_mul.srv (ev_cty call_int1U sr_int1 (av_cons (ev_and (ev_cmp (op_eqW u64) sr_eq.srv (ev_name (pv 1)) ev_int (nomark _)) (ev_one (ev_cmp (op_eqW u64) sr_eq.srv (ev_name (pv 4)) ev_int (nomark _)))) av_nil) G.n_int PyProof.Rows.boot_int) (ev_call ((ok__law_draw G).mono (by decide)) hr g G.m__law_draw G.D__law_draw.kp (bi__law_draw G) (dv := []) .nil tk (xv_lent (pv 2) (xv_val ev_int xv_nil))))) (gv_tup hc (gsv_cons (gv_name nd (i := 5)) (gsv_cons (gv_name nd (i := 6)) gsv_nil))))
 (bv_cons (sv_set (i := 7) nd (ev_if (tv_cmp (op_eqW u64) sr_eq.srv (ev_name (pv 5)) ev_int (nomark _)) (ev_fz (ev_call ((ok__law_keys G).mono (by decide)) hr g G.m__law_keys G.D__law_keys.kp (bi__law_keys G) (dv := []) .nil tk (xv_lent (pv 2) (xv_val ev_int xv_nil)))) (ev_frz (pv 3))))
 (bv_cons (sv_set (i := 8) nd (ev_call ((ok__law_log G).mono (by decide)) hr g G.m__law_log G.D__law_log.kp (bi__law_log G) (dv := []) .nil tk (xv_lent (pv 2) (xv_val (ev_frz (pv 7)) (xv_val (ev_ix u1 (ev_lst (av_cons (ev_call ((ok__law_draw G).mono (by decide)) hr g G.m__law_draw G.D__law_draw.kp (bi__law_draw G) (dv := []) .nil tk (xv_lent (pv 2) (xv_val (ev_bop op_addU sr_add.srv (ev_name (pv 5)) ev_int) xv_nil))) (av_cons (ev_frz (pv 5)) av_nil))) (ev_call ((ok__law_draw G).mono (by decide)) hr g G.m__law_draw G.D__law_draw.kp (bi__law_draw G) (dv := []) .nil tk (xv_lent (pv 2) (xv_val ev_int xv_nil)))) xv_nil)))))
 (bv_cons (sv_set (i := 9) nd (ev_lst (av_cons (ev_plN (pv 8)) (av_cons (ev_callP ((ok__law_counted G).mono (by decide)) hr g G.m__law_counted G.D__law_counted.kp (bi__law_counted G) (dv := []) .nil tk (xv_lent (pv 2) (xv_val (ev_plN (pv 8)) xv_nil))) (av_cons (ev_call ((ok__law_run G).mono (by decide)) hr g G.m__law_run G.D__law_run.kp (bi__law_run G) (dv := []) .nil tk (xv_lent (pv 2) (xv_val (ev_frz (pv 7)) (xv_val (ev_call ((ok__law_draw G).mono (by decide)) hr g G.m__law_draw G.D__law_draw.kp (bi__law_draw G) (dv := []) .nil tk (xv_lent (pv 2) (xv_val (ev_bop op_addU sr_add.srv (ev_name (pv 6)) ev_int) xv_nil))) xv_nil)))) av_nil)))))
 (bv_cons (sv_for hp hc (iv_range1 (av_cons ev_int av_nil) G.n_range) (gv_name nd (i := 10))
 (bv_one (sv_if (tv_not (tv_val (ev_callP ((ok__law_right G).mono (by decide)) hr g G.m__law_right G.D__law_right.kp (bi__law_right G) (dv := []) .nil tk (xv_val (ev_name (pv 10)) (xv_val (ev_plI u1 (ev_plN (pv 9)) (ev_name (pv 10))) xv_nil)))))
 (bv_one (sv_ret ev_bl))
 bv_nil)))
 (bv_cons (sv_expr (ev_mutP0 PySem.F.plainAttrs_list PySem.F.slot_list_reverse PySem.F.type_list_reverse mt_reverse ms_reverse (ev_plN (pv 8))))
 (bv_cons (sv_forX hp hc (ivc_stat (ev_slS (ev_kids (ev_plN (pv 9))) (ov_some ev_int) ov_none)) (gv_name nd (i := 11))
 (bv_one (sv_if (tv_cmp (op_neW u64) sr_eq.srv (ev_res (ev_name (pv 11))) (ev_lst av_nil) (nomark _))
 (bv_one (sv_expr (ev_mutP0 PySem.F.plainAttrs_list PySem.F.slot_list_pop PySem.F.type_list_pop mt_pop ms_pop (ev_plN (pv 11)))))
 bv_nil)))
 (bv_one (sv_for hp hc (iv_range1 (av_cons ev_int av_nil) G.n_range) (gv_name nd (i := 10))
 (bv_one (sv_if (tv_not (tv_val (ev_callP ((ok__law_right G).mono (by decide)) hr g G.m__law_right G.D__law_right.kp (bi__law_right G) (dv := []) .nil tk (xv_val (ev_name (pv 10)) (xv_val (ev_plI u1 (ev_plN (pv 9)) (ev_name (pv 10))) xv_nil)))))
 (bv_one (sv_ret ev_bl))
 bv_nil))))))))))))))))
 (bv_cons (sv_if (tv_cmp (op_neW u64) sr_eq.srv (ev_call ((ok_format_counted G).mono (by decide)) hr g G.m_format_counted G.D_format_counted.kp (bi_format_counted G) (dv := []) .nil tk (xv_val (ev_fz (ev_lst (av_cons (ev_tup (av_cons ev_str (av_cons (ev_bop op_powV sr_int.srv ev_int ev_int) av_nil))) av_nil))) xv_nil)) (ev_bop op_addU sr_add.srv ev_str (ev_bop op_mulU sr_mul.srv ev_str ev_int)) (nomark _))
 (bv_one (sv_ret ev_bl))
 bv_nil)
 (bv_one (sv_ret (ev_cmp (op_eqW u64) sr_eq.srv (ev_lc (own := [("kind", 10)]) hc nd (iv_range1 (av_cons ev_int av_nil) G.n_range) (blkOk_by (N := N_law) (sc := defScope (top 48)) (by decide +kernel)) ⟨fun io s H C cl fp ho => (gv_name nd (i := 10) (hio := ho 10 (by decide))), fun s H C cl fp => cv_nil, fun s H C cl fp => (ev_fz (ev_call ((ok__law_right G).mono (by decide)) hr g G.m__law_right G.D__law_right.kp (bi__law_right G) (dv := []) .nil takes0 (xv_val (ev_name (pv 10)) (xv_val (ev_fz (ev_lst av_nil)) xv_nil))))⟩) (ev_bop op_mulU sr_mul.srv (ev_lst (av_cons ev_bl av_nil)) ev_int) (nomark _))))))
theorem ok_law {P : Program} {w : World} {K : PySem.W.Frag} {mg : Str → Option Value} {base : Heap} (G : Gx K mg) : FnV P w K mg base 9 G.f_law G.fd_law ["script"] [] (sp_law G) := fnv_of G.D_law sc_law (by decide) (by decide) (b_law G) (p_law G)
end VL.L59
set_option maxHeartbeats 0
namespace VL.L59
open PySem PySem.Spec PyProof.Rows L2
def hd_is_key : He.DefD := ⟨("is_key", none), "is_key", "is_key", defArgs (top 11), defBody (top 11), defScope (top 11), [], []⟩
def hd_is_integer : He.DefD := ⟨("is_integer", none), "is_integer", "is_integer", defArgs (top 12), defBody (top 12), defScope (top 12), [.non], []⟩
def hd_is_write : He.DefD := ⟨("is_write", none), "is_write", "is_write", defArgs (top 13), defBody (top 13), defScope (top 13), [], []⟩
def hd_is_log : He.DefD := ⟨("is_log", none), "is_log", "is_log", defArgs (top 14), defBody (top 14), defScope (top 14), [], []⟩
def hd_is_counted : He.DefD := ⟨("is_counted", none), "is_counted", "is_counted", defArgs (top 15), defBody (top 15), defScope (top 15), [], []⟩
def hd_is_event : He.DefD := ⟨("is_event", none), "is_event", "is_event", defArgs (top 16), defBody (top 16), defScope (top 16), [], []⟩
def hd_are_events : He.DefD := ⟨("are_events", none), "are_events", "are_events", defArgs (top 17), defBody (top 17), defScope (top 17), [], []⟩
def hd_is_run : He.DefD := ⟨("is_run", none), "is_run", "is_run", defArgs (top 18), defBody (top 18), defScope (top 18), [], []⟩
def hd_require_log : He.DefD := ⟨("require_log", none), "require_log", "require_log", defArgs (top 19), defBody (top 19), defScope (top 19), [], []⟩
def hd_require_counted : He.DefD := ⟨("require_counted", none), "require_counted", "require_counted", defArgs (top 20), defBody (top 20), defScope (top 20), [], []⟩
def hd_require_run : He.DefD := ⟨("require_run", none), "require_run", "require_run", defArgs (top 21), defBody (top 21), defScope (top 21), [], []⟩
def hd_format_log : He.DefD := ⟨("format_log", none), "format_log", "format_log", defArgs (top 27), defBody (top 27), defScope (top 27), [], []⟩
def hd_write_text : He.DefD := ⟨("write_text", none), "write_text", "write_text", defArgs (top 28), defBody (top 28), defScope (top 28), [], []⟩
def hd_format_counted : He.DefD := ⟨("format_counted", none), "format_counted", "format_counted", defArgs (top 29), defBody (top 29), defScope (top 29), [], []⟩
def hd_format_run : He.DefD := ⟨("format_run", none), "format_run", "format_run", defArgs (top 30), defBody (top 30), defScope (top 30), [], []⟩
def hd_words_of : He.DefD := ⟨("words_of", none), "words_of", "words_of", defArgs (top 31), defBody (top 31), defScope (top 31), [], []⟩
def hd_count_in : He.DefD := ⟨("count_in", none), "count_in", "count_in", defArgs (top 32), defBody (top 32), defScope (top 32), [], []⟩
def hd_parse_log : He.DefD := ⟨("parse_log", none), "parse_log", "parse_log", defArgs (top 33), defBody (top 33), defScope (top 33), [], []⟩
def hd_parse_counted : He.DefD := ⟨("parse_counted", none), "parse_counted", "parse_counted", defArgs (top 34), defBody (top 34), defScope (top 34), [], []⟩
def hd_parse_run : He.DefD := ⟨("parse_run", none), "parse_run", "parse_run", defArgs (top 35), defBody (top 35), defScope (top 35), [], []⟩
def hd__law_source : He.DefD := ⟨("_law_source", none), "_law_source", "_law_source", defArgs (top 37), defBody (top 37), defScope (top 37), [], []⟩
def hd__law_draw : He.DefD := ⟨("_law_draw", none), "_law_draw", "_law_draw", defArgs (top 38), defBody (top 38), defScope (top 38), [], []⟩
def hd__law_some : He.DefD := ⟨("_law_some", none), "_law_some", "_law_some", defArgs (top 39), defBody (top 39), defScope (top 39), [], []⟩
def hd__law_keys : He.DefD := ⟨("_law_keys", none), "_law_keys", "_law_keys", defArgs (top 40), defBody (top 40), defScope (top 40), [], []⟩
def hd__law_log : He.DefD := ⟨("_law_log", none), "_law_log", "_law_log", defArgs (top 41), defBody (top 41), defScope (top 41), [], []⟩
def hd__law_run : He.DefD := ⟨("_law_run", none), "_law_run", "_law_run", defArgs (top 42), defBody (top 42), defScope (top 42), [], []⟩
def hd__law_counted : He.DefD := ⟨("_law_counted", none), "_law_counted", "_law_counted", defArgs (top 43), defBody (top 43), defScope (top 43), [], []⟩
def hd__law_text : He.DefD := ⟨("_law_text", none), "_law_text", "_law_text", defArgs (top 44), defBody (top 44), defScope (top 44), [], []⟩
def hd__law_written : He.DefD := ⟨("_law_written", none), "_law_written", "_law_written", defArgs (top 45), defBody (top 45), defScope (top 45), [], []⟩
def hd__law_read : He.DefD := ⟨("_law_read", none), "_law_read", "_law_read", defArgs (top 46), defBody (top 46), defScope (top 46), [], []⟩
def hd__law_right : He.DefD := ⟨("_law_right", none), "_law_right", "_law_right", defArgs (top 47), defBody (top 47), defScope (top 47), [], []⟩
def hd_law : He.DefD := ⟨("law", none), "law", "law", defArgs (top 48), defBody (top 48), defScope (top 48), [], []⟩
def hm_InvalidText : He.DefD := ⟨("InvalidText", some "__init__"), "__init__", "InvalidText.__init__", defArgs (mth 4 0), defBody (mth 4 0), defScope (mth 4 0), [], []⟩
def fnH_0 : List He.DefD := [hd_is_key, hd_is_integer, hd_is_write, hd_is_log, hd_is_counted, hd_is_event, hd_are_events, hd_is_run, hd_require_log, hd_require_counted, hd_require_run, hd_format_log, hd_write_text, hd_format_counted, hd_format_run, hd_words_of, hd_count_in, hd_parse_log, hd_parse_counted, hd_parse_run, hd__law_source, hd__law_draw, hd__law_some, hd__law_keys, hd__law_log, hd__law_run, hd__law_counted, hd__law_text, hd__law_written, hd__law_read]
def fnH_1 : List He.DefD := [hd__law_right, hd_law, hm_InvalidText]
def fnH : List He.DefD := fnH_0 ++ fnH_1
def faH_0 : List He.Fa := [.free "all", .free "bool", .free "enumerate", .free "int", .free "isinstance", .free "len", .free "list", .free "max", .free "min", .free "range", .free "repr", .free "str", .free "tuple", .str "LETTERS" "abcdefghijklmnopqrstuvwxyz", .str "CHARACTERS" "abcdefghijklmnopqrstuvwxyz0123456789_", .int "MOST_CHARACTERS" 12, .str "WRITE" "write", .str "SEND" "send", .str "DIGITS" "0123456789", .str "NUMBER_SIGN" "#", .str "PLUS" "+", .str "MARK" "!", .glo "is_key", .glo "is_integer", .glo "is_write", .glo "is_log", .glo "is_counted", .glo "is_event", .glo "are_events", .glo "is_run"]
def faH_1 : List He.Fa := [.glo "require_log", .glo "require_counted", .glo "require_run", .glo "format_log", .glo "write_text", .glo "format_counted", .glo "format_run", .glo "words_of", .glo "count_in", .glo "parse_log", .glo "parse_counted", .glo "parse_run", .glo "_law_source", .glo "_law_draw", .glo "_law_some", .glo "_law_keys", .glo "_law_log", .glo "_law_run", .glo "_law_counted", .glo "_law_text", .glo "_law_written", .glo "_law_read", .glo "_law_right", .glo "law", .glo "InvalidLog", .glo "InvalidRun", .glo "InvalidText", .glo "ConflateError"]
def faH : List He.Fa := faH_0 ++ faH_1
def exH (K : PySem.W.Frag) : Bool := decide (PySem.W.exmOne K (.ref (He.ga K "InvalidLog")) (.ref (He.ga K "InvalidLog")) = some true) && (PySem.W.excIn K (He.ga K "InvalidLog") He.veBase "ValueError.__new__" && (PySem.W.keepIn K (.ref (He.ga K "InvalidLog")) && (decide (PySem.W.subIn K (.ref (He.ga K "InvalidLog")) (.type "BaseException") = some true) && (decide (PySem.W.typeIn K (.ref (He.ga K "InvalidLog")) = some (.type "type")) && (decide (PySem.W.exmOne K (.ref (He.ga K "InvalidRun")) (.ref (He.ga K "InvalidRun")) = some true) && (PySem.W.excIn K (He.ga K "InvalidRun") He.veBase "ValueError.__new__" && (PySem.W.keepIn K (.ref (He.ga K "InvalidRun")) && (decide (PySem.W.subIn K (.ref (He.ga K "InvalidRun")) (.type "BaseException") = some true) && (decide (PySem.W.typeIn K (.ref (He.ga K "InvalidRun")) = some (.type "type")) && (decide (PySem.W.exmOne K (.ref (He.ga K "InvalidText")) (.ref (He.ga K "InvalidText")) = some true) && (VL.binB K (He.ga K "ConflateError") && (VL.oexB K (He.ga K "InvalidText") && (xfB K (He.ga K "InvalidText") && (decide (PySem.W.findIn K (.ref (He.ga K "InvalidText")) "position" = some none) && (decide (PySem.W.findIn K (.ref (He.ga K "InvalidText")) "__init__" = some (some (.ref (He.ma K (He.ga K "InvalidText") "__init__")))) && (decide (PySem.W.typeIn K (.ref (He.ma K (He.ga K "InvalidText") "__init__")) = some (.type "function"))))))))))))))))))
def looseH_0 : List Str := ["ConflateError", "InvalidLog", "InvalidRun", "InvalidText", "LETTERS", "CHARACTERS", "MOST_CHARACTERS", "WRITE", "SEND", "is_key", "is_integer", "is_write", "is_log", "is_counted", "is_event", "are_events", "is_run", "require_log", "require_counted", "require_run", "DIGITS", "NUMBER_SIGN", "PLUS", "MARK", "format_log", "write_text", "format_counted", "format_run", "words_of", "count_in"]
def looseH_1 : List Str := ["parse_log", "parse_counted", "parse_run", "_law_source", "_law_draw", "_law_some", "_law_keys", "_law_log", "_law_run", "_law_counted", "_law_text", "_law_written", "_law_read", "_law_right"]
def looseH : List Str := looseH_0 ++ looseH_1
abbrev RH : PySem.W.OpenRow := PySem.W.OpenLaw.row PySem.Challenge.rw_conflate_k59_texts_written_and_read
abbrev hkH : PySem.W.Hook := VL.hookV 4 faH fnH exH
def obH (s : PySem.W.SharedT) : VL.AlV := VL.obsV 4 faH fnH exH (HandSHeadRun.getT s)
theorem ob_eqH (s : PySem.W.SharedT) : obH s = hkH.obs s.abs := VL.obsV_eq (HandSHeadRun.getT_eq s)
theorem runH (w : World) : HandSHeadRun.RunEq RH (PySem.W.view RH.prog [48]) hkH obH 4000 looseH w := by
  intro os
  kernel_rfl
theorem factsH {P : Program} {w : World} {K : PySem.W.Frag} {h : Heap} {mg : Str → Option Value} {f : Addr} (X : K.In h) (G : h.Ns mainGlobals mg) (hfa : mg ("law" : Str) = some (.ref f)) (cc : VL.SaysV faH fnH exH K) :
    ∃ fd : FuncData, (∀ (s : Shared) (v : Value), BindsTo s fd ⟨[v], []⟩ [("script", v)]) ∧ ∀ base : Heap, K.In base → base.Ns mainGlobals mg → VL.FnV P w K mg base 9 f fd ["script"] [] (spLawV 63) := by
  obtain ⟨c, hx⟩ := cc
  have e := hfa.symm.trans (He.glo_ok X G (c.fact 53 (f := .glo "law") rfl))
  cases e
  obtain ⟨t_LETTERS, g_LETTERS⟩ := He.str_ok X G (c.fact 13 (f := .str "LETTERS" "abcdefghijklmnopqrstuvwxyz") rfl)
  obtain ⟨t_CHARACTERS, g_CHARACTERS⟩ := He.str_ok X G (c.fact 14 (f := .str "CHARACTERS" "abcdefghijklmnopqrstuvwxyz0123456789_") rfl)
  obtain ⟨t_MOST_CHARACTERS, g_MOST_CHARACTERS⟩ := He.int_ok X G (c.fact 15 (f := .int "MOST_CHARACTERS" 12) rfl)
  obtain ⟨t_WRITE, g_WRITE⟩ := He.str_ok X G (c.fact 16 (f := .str "WRITE" "write") rfl)
  obtain ⟨t_SEND, g_SEND⟩ := He.str_ok X G (c.fact 17 (f := .str "SEND" "send") rfl)
  obtain ⟨t_DIGITS, g_DIGITS⟩ := He.str_ok X G (c.fact 18 (f := .str "DIGITS" "0123456789") rfl)
  obtain ⟨t_NUMBER_SIGN, g_NUMBER_SIGN⟩ := He.str_ok X G (c.fact 19 (f := .str "NUMBER_SIGN" "#") rfl)
  obtain ⟨t_PLUS, g_PLUS⟩ := He.str_ok X G (c.fact 20 (f := .str "PLUS" "+") rfl)
  obtain ⟨t_MARK, g_MARK⟩ := He.str_ok X G (c.fact 21 (f := .str "MARK" "!") rfl)
  obtain ⟨fd_is_key, D_is_key⟩ := c.def_ 0 (d := hd_is_key) rfl
  obtain ⟨fd_is_integer, D_is_integer⟩ := c.def_ 1 (d := hd_is_integer) rfl
  obtain ⟨fd_is_write, D_is_write⟩ := c.def_ 2 (d := hd_is_write) rfl
  obtain ⟨fd_is_log, D_is_log⟩ := c.def_ 3 (d := hd_is_log) rfl
  obtain ⟨fd_is_counted, D_is_counted⟩ := c.def_ 4 (d := hd_is_counted) rfl
  obtain ⟨fd_is_event, D_is_event⟩ := c.def_ 5 (d := hd_is_event) rfl
  obtain ⟨fd_are_events, D_are_events⟩ := c.def_ 6 (d := hd_are_events) rfl
  obtain ⟨fd_is_run, D_is_run⟩ := c.def_ 7 (d := hd_is_run) rfl
  obtain ⟨fd_require_log, D_require_log⟩ := c.def_ 8 (d := hd_require_log) rfl
  obtain ⟨fd_require_counted, D_require_counted⟩ := c.def_ 9 (d := hd_require_counted) rfl
  obtain ⟨fd_require_run, D_require_run⟩ := c.def_ 10 (d := hd_require_run) rfl
  obtain ⟨fd_format_log, D_format_log⟩ := c.def_ 11 (d := hd_format_log) rfl
  obtain ⟨fd_write_text, D_write_text⟩ := c.def_ 12 (d := hd_write_text) rfl
  obtain ⟨fd_format_counted, D_format_counted⟩ := c.def_ 13 (d := hd_format_counted) rfl
  obtain ⟨fd_format_run, D_format_run⟩ := c.def_ 14 (d := hd_format_run) rfl
  obtain ⟨fd_words_of, D_words_of⟩ := c.def_ 15 (d := hd_words_of) rfl
  obtain ⟨fd_count_in, D_count_in⟩ := c.def_ 16 (d := hd_count_in) rfl
  obtain ⟨fd_parse_log, D_parse_log⟩ := c.def_ 17 (d := hd_parse_log) rfl
  obtain ⟨fd_parse_counted, D_parse_counted⟩ := c.def_ 18 (d := hd_parse_counted) rfl
  obtain ⟨fd_parse_run, D_parse_run⟩ := c.def_ 19 (d := hd_parse_run) rfl
  obtain ⟨fd__law_source, D__law_source⟩ := c.def_ 20 (d := hd__law_source) rfl
  obtain ⟨fd__law_draw, D__law_draw⟩ := c.def_ 21 (d := hd__law_draw) rfl
  obtain ⟨fd__law_some, D__law_some⟩ := c.def_ 22 (d := hd__law_some) rfl
  obtain ⟨fd__law_keys, D__law_keys⟩ := c.def_ 23 (d := hd__law_keys) rfl
  obtain ⟨fd__law_log, D__law_log⟩ := c.def_ 24 (d := hd__law_log) rfl
  obtain ⟨fd__law_run, D__law_run⟩ := c.def_ 25 (d := hd__law_run) rfl
  obtain ⟨fd__law_counted, D__law_counted⟩ := c.def_ 26 (d := hd__law_counted) rfl
  obtain ⟨fd__law_text, D__law_text⟩ := c.def_ 27 (d := hd__law_text) rfl
  obtain ⟨fd__law_written, D__law_written⟩ := c.def_ 28 (d := hd__law_written) rfl
  obtain ⟨fd__law_read, D__law_read⟩ := c.def_ 29 (d := hd__law_read) rfl
  obtain ⟨fd__law_right, D__law_right⟩ := c.def_ 30 (d := hd__law_right) rfl
  obtain ⟨fd_law, D_law⟩ := c.def_ 31 (d := hd_law) rfl
  obtain ⟨fdi_InvalidText, Di_InvalidText⟩ := c.def_ 32 (d := hm_InvalidText) rfl
  unfold exH at hx
  obtain ⟨e_ex_InvalidLog, hx0⟩ := and2 hx
  obtain ⟨e_x_InvalidLog, hx1⟩ := and2 hx0
  obtain ⟨e_k_InvalidLog, hx2⟩ := and2 hx1
  obtain ⟨e_s_InvalidLog, hx3⟩ := and2 hx2
  obtain ⟨e_y_InvalidLog, hx4⟩ := and2 hx3
  obtain ⟨e_ex_InvalidRun, hx5⟩ := and2 hx4
  obtain ⟨e_x_InvalidRun, hx6⟩ := and2 hx5
  obtain ⟨e_k_InvalidRun, hx7⟩ := and2 hx6
  obtain ⟨e_s_InvalidRun, hx8⟩ := and2 hx7
  obtain ⟨e_y_InvalidRun, hx9⟩ := and2 hx8
  obtain ⟨e_ex_InvalidText, hx10⟩ := and2 hx9
  obtain ⟨e_B_ConflateError, hx11⟩ := and2 hx10
  obtain ⟨e_T_InvalidText, hx12⟩ := and2 hx11
  obtain ⟨e_xf_InvalidText, hx13⟩ := and2 hx12
  obtain ⟨e_no_InvalidText, hx14⟩ := and2 hx13
  obtain ⟨e_iC_InvalidText, hx15⟩ := and2 hx14
  have e_tI_InvalidText := hx15
  let G0 : Gx K mg := {
    n_all := He.free_ok X G (c.fact 0 (f := .free "all") rfl)
    n_bool := He.free_ok X G (c.fact 1 (f := .free "bool") rfl)
    n_enumerate := He.free_ok X G (c.fact 2 (f := .free "enumerate") rfl)
    n_int := He.free_ok X G (c.fact 3 (f := .free "int") rfl)
    n_isinstance := He.free_ok X G (c.fact 4 (f := .free "isinstance") rfl)
    n_len := He.free_ok X G (c.fact 5 (f := .free "len") rfl)
    n_list := He.free_ok X G (c.fact 6 (f := .free "list") rfl)
    n_max := He.free_ok X G (c.fact 7 (f := .free "max") rfl)
    n_min := He.free_ok X G (c.fact 8 (f := .free "min") rfl)
    n_range := He.free_ok X G (c.fact 9 (f := .free "range") rfl)
    n_repr := He.free_ok X G (c.fact 10 (f := .free "repr") rfl)
    n_str := He.free_ok X G (c.fact 11 (f := .free "str") rfl)
    n_tuple := He.free_ok X G (c.fact 12 (f := .free "tuple") rfl)
    t_LETTERS := t_LETTERS
    g_LETTERS := g_LETTERS
    t_CHARACTERS := t_CHARACTERS
    g_CHARACTERS := g_CHARACTERS
    t_MOST_CHARACTERS := t_MOST_CHARACTERS
    g_MOST_CHARACTERS := g_MOST_CHARACTERS
    t_WRITE := t_WRITE
    g_WRITE := g_WRITE
    t_SEND := t_SEND
    g_SEND := g_SEND
    t_DIGITS := t_DIGITS
    g_DIGITS := g_DIGITS
    t_NUMBER_SIGN := t_NUMBER_SIGN
    g_NUMBER_SIGN := g_NUMBER_SIGN
    t_PLUS := t_PLUS
    g_PLUS := g_PLUS
    t_MARK := t_MARK
    g_MARK := g_MARK
    f_is_key := He.ga K "is_key"
    fd_is_key := fd_is_key
    m_is_key := He.glo_ok X G (c.fact 22 (f := .glo "is_key") rfl)
    D_is_key := D_is_key
    f_is_integer := He.ga K "is_integer"
    fd_is_integer := fd_is_integer
    m_is_integer := He.glo_ok X G (c.fact 23 (f := .glo "is_integer") rfl)
    D_is_integer := D_is_integer
    f_is_write := He.ga K "is_write"
    fd_is_write := fd_is_write
    m_is_write := He.glo_ok X G (c.fact 24 (f := .glo "is_write") rfl)
    D_is_write := D_is_write
    f_is_log := He.ga K "is_log"
    fd_is_log := fd_is_log
    m_is_log := He.glo_ok X G (c.fact 25 (f := .glo "is_log") rfl)
    D_is_log := D_is_log
    f_is_counted := He.ga K "is_counted"
    fd_is_counted := fd_is_counted
    m_is_counted := He.glo_ok X G (c.fact 26 (f := .glo "is_counted") rfl)
    D_is_counted := D_is_counted
    f_is_event := He.ga K "is_event"
    fd_is_event := fd_is_event
    m_is_event := He.glo_ok X G (c.fact 27 (f := .glo "is_event") rfl)
    D_is_event := D_is_event
    f_are_events := He.ga K "are_events"
    fd_are_events := fd_are_events
    m_are_events := He.glo_ok X G (c.fact 28 (f := .glo "are_events") rfl)
    D_are_events := D_are_events
    f_is_run := He.ga K "is_run"
    fd_is_run := fd_is_run
    m_is_run := He.glo_ok X G (c.fact 29 (f := .glo "is_run") rfl)
    D_is_run := D_is_run
    f_require_log := He.ga K "require_log"
    fd_require_log := fd_require_log
    m_require_log := He.glo_ok X G (c.fact 30 (f := .glo "require_log") rfl)
    D_require_log := D_require_log
    f_require_counted := He.ga K "require_counted"
    fd_require_counted := fd_require_counted
    m_require_counted := He.glo_ok X G (c.fact 31 (f := .glo "require_counted") rfl)
    D_require_counted := D_require_counted
    f_require_run := He.ga K "require_run"
    fd_require_run := fd_require_run
    m_require_run := He.glo_ok X G (c.fact 32 (f := .glo "require_run") rfl)
    D_require_run := D_require_run
    f_format_log := He.ga K "format_log"
    fd_format_log := fd_format_log
    m_format_log := He.glo_ok X G (c.fact 33 (f := .glo "format_log") rfl)
    D_format_log := D_format_log
    f_write_text := He.ga K "write_text"
    fd_write_text := fd_write_text
    m_write_text := He.glo_ok X G (c.fact 34 (f := .glo "write_text") rfl)
    D_write_text := D_write_text
    f_format_counted := He.ga K "format_counted"
    fd_format_counted := fd_format_counted
    m_format_counted := He.glo_ok X G (c.fact 35 (f := .glo "format_counted") rfl)
    D_format_counted := D_format_counted
    f_format_run := He.ga K "format_run"
    fd_format_run := fd_format_run
    m_format_run := He.glo_ok X G (c.fact 36 (f := .glo "format_run") rfl)
    D_format_run := D_format_run
    f_words_of := He.ga K "words_of"
    fd_words_of := fd_words_of
    m_words_of := He.glo_ok X G (c.fact 37 (f := .glo "words_of") rfl)
    D_words_of := D_words_of
    f_count_in := He.ga K "count_in"
    fd_count_in := fd_count_in
    m_count_in := He.glo_ok X G (c.fact 38 (f := .glo "count_in") rfl)
    D_count_in := D_count_in
    f_parse_log := He.ga K "parse_log"
    fd_parse_log := fd_parse_log
    m_parse_log := He.glo_ok X G (c.fact 39 (f := .glo "parse_log") rfl)
    D_parse_log := D_parse_log
    f_parse_counted := He.ga K "parse_counted"
    fd_parse_counted := fd_parse_counted
    m_parse_counted := He.glo_ok X G (c.fact 40 (f := .glo "parse_counted") rfl)
    D_parse_counted := D_parse_counted
    f_parse_run := He.ga K "parse_run"
    fd_parse_run := fd_parse_run
    m_parse_run := He.glo_ok X G (c.fact 41 (f := .glo "parse_run") rfl)
    D_parse_run := D_parse_run
    f__law_source := He.ga K "_law_source"
    fd__law_source := fd__law_source
    m__law_source := He.glo_ok X G (c.fact 42 (f := .glo "_law_source") rfl)
    D__law_source := D__law_source
    f__law_draw := He.ga K "_law_draw"
    fd__law_draw := fd__law_draw
    m__law_draw := He.glo_ok X G (c.fact 43 (f := .glo "_law_draw") rfl)
    D__law_draw := D__law_draw
    f__law_some := He.ga K "_law_some"
    fd__law_some := fd__law_some
    m__law_some := He.glo_ok X G (c.fact 44 (f := .glo "_law_some") rfl)
    D__law_some := D__law_some
    f__law_keys := He.ga K "_law_keys"
    fd__law_keys := fd__law_keys
    m__law_keys := He.glo_ok X G (c.fact 45 (f := .glo "_law_keys") rfl)
    D__law_keys := D__law_keys
    f__law_log := He.ga K "_law_log"
    fd__law_log := fd__law_log
    m__law_log := He.glo_ok X G (c.fact 46 (f := .glo "_law_log") rfl)
    D__law_log := D__law_log
    f__law_run := He.ga K "_law_run"
    fd__law_run := fd__law_run
    m__law_run := He.glo_ok X G (c.fact 47 (f := .glo "_law_run") rfl)
    D__law_run := D__law_run
    f__law_counted := He.ga K "_law_counted"
    fd__law_counted := fd__law_counted
    m__law_counted := He.glo_ok X G (c.fact 48 (f := .glo "_law_counted") rfl)
    D__law_counted := D__law_counted
    f__law_text := He.ga K "_law_text"
    fd__law_text := fd__law_text
    m__law_text := He.glo_ok X G (c.fact 49 (f := .glo "_law_text") rfl)
    D__law_text := D__law_text
    f__law_written := He.ga K "_law_written"
    fd__law_written := fd__law_written
    m__law_written := He.glo_ok X G (c.fact 50 (f := .glo "_law_written") rfl)
    D__law_written := D__law_written
    f__law_read := He.ga K "_law_read"
    fd__law_read := fd__law_read
    m__law_read := He.glo_ok X G (c.fact 51 (f := .glo "_law_read") rfl)
    D__law_read := D__law_read
    f__law_right := He.ga K "_law_right"
    fd__law_right := fd__law_right
    m__law_right := He.glo_ok X G (c.fact 52 (f := .glo "_law_right") rfl)
    D__law_right := D__law_right
    f_law := He.ga K "law"
    fd_law := fd_law
    m_law := He.glo_ok X G (c.fact 53 (f := .glo "law") rfl)
    D_law := D_law
    C_InvalidLog := He.ga K "InvalidLog"
    mC_InvalidLog := He.glo_ok X G (c.fact 54 (f := .glo "InvalidLog") rfl)
    ex_InvalidLog := of_decide_eq_true e_ex_InvalidLog
    x_InvalidLog := e_x_InvalidLog
    k_InvalidLog := e_k_InvalidLog
    s_InvalidLog := of_decide_eq_true e_s_InvalidLog
    y_InvalidLog := of_decide_eq_true e_y_InvalidLog
    C_InvalidRun := He.ga K "InvalidRun"
    mC_InvalidRun := He.glo_ok X G (c.fact 55 (f := .glo "InvalidRun") rfl)
    ex_InvalidRun := of_decide_eq_true e_ex_InvalidRun
    x_InvalidRun := e_x_InvalidRun
    k_InvalidRun := e_k_InvalidRun
    s_InvalidRun := of_decide_eq_true e_s_InvalidRun
    y_InvalidRun := of_decide_eq_true e_y_InvalidRun
    C_InvalidText := He.ga K "InvalidText"
    mC_InvalidText := He.glo_ok X G (c.fact 56 (f := .glo "InvalidText") rfl)
    ex_InvalidText := of_decide_eq_true e_ex_InvalidText
    C_ConflateError := He.ga K "ConflateError"
    mC_ConflateError := He.glo_ok X G (c.fact 57 (f := .glo "ConflateError") rfl)
    B_ConflateError := VL.binB_ok e_B_ConflateError
    T_InvalidText := VL.oexB_ok e_T_InvalidText
    fi_InvalidText := (He.ma K (He.ga K "InvalidText") "__init__")
    fdi_InvalidText := fdi_InvalidText
    iC_InvalidText := of_decide_eq_true e_iC_InvalidText
    tI_InvalidText := of_decide_eq_true e_tI_InvalidText
    Di_InvalidText := Di_InvalidText
    no_InvalidText := of_decide_eq_true e_no_InvalidText
    xf_InvalidText := xfB_ok e_xf_InvalidText }
  have b := FunD.bindsA (ps := ["script"]) D_law fun _ _ _ _ _ _ us hl => match us, hl with | [_], _ => rfl
  exact ⟨fd_law, fun s v => b s [v] rfl, fun base _ _ => ok_law G0⟩
end VL.L59
open PySem PySem.W PySem.Calls PyProof.Rows
theorem PySem.Challenge.cw_conflate_k59_texts_written_and_read_holds : PySem.Challenge.rw_conflate_k59_texts_written_and_read.Holds := by
  w_on; o_law
  refine HandSHeadRun.head_any (r := OpenLaw.row PySem.Challenge.rw_conflate_k59_texts_written_and_read) (q := view (OpenLaw.row PySem.Challenge.rw_conflate_k59_texts_written_and_read).prog [48]) (H := VL.L59.hkH) (ob := VL.L59.obH) (M := 4000) (loose := VL.L59.looseH) (d := HandSHeadRun.topDef (OpenLaw.row PySem.Challenge.rw_conflate_k59_texts_written_and_read).prog 48) (kwd := []) VL.L59.ob_eqH
    (by kernel_rfl) (fun s => by kernel_rfl) VL.L59.runH (by kernel_rfl) (by kernel_rfl) (by kernel_rfl) (by rfl) (by first | assumption | decide +kernel) (by decide +kernel) ⟨rfl, rfl, rfl, rfl, rfl, by decide +kernel⟩ ?hw ?hc
  case hw => w_witness2
  case hc =>
    refine VL.walk_ofV (l := PySem.Challenge.rw_conflate_k59_texts_written_and_read) (n := 63) (k := 9) (x := "script") rfl (by decide) (by kernel_rfl) ⟨rfl, by decide, by decide⟩ ?F
    intro w mg fa h Y G hmg0
    obtain ⟨K, KX, c⟩ := Y
    have hmg : mg ("law" : PySem.Str) = some (.ref fa) := by
      have e : (HandSHeadRun.topDef (OpenLaw.row PySem.Challenge.rw_conflate_k59_texts_written_and_read).prog 48).name = ("law" : PySem.Str) := by kernel_rfl
      rw [← e]
      exact hmg0
    obtain ⟨fd, hb, hF⟩ := VL.L59.factsH (P := (PySem.Challenge.rw_conflate_k59_texts_written_and_read).prog) (w := w) KX G hmg c
    exact ⟨K, fd, KX, hb, hF⟩

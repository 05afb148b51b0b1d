import PyProof.Rows.All
import Wide.All
import OpenK.AllK
import Wide.FinOn
import KE.KStateDown
import Lean
import PySem.Challenge.RW_untoldhomes_k00_errors_and_what_they_kee
import HandS.ForMost
import HandS.Exc
import HandS.Wide
import HandS.RaiseMore
import HandS.Conv
import HandS.ExcField
import KE.KExcSuper
import KE.KExcIs
import HandS.ExcValue
import HandS.IsInst
import HandS.Small
import HandS.Dict
import HandS.Call
import HandS.Ends
import HandS.Defaults
import HandS.HeadEnd
import HandS.HeadHook1
import HandS.HeadHook2
import HandS.Head0
import HandS.Head1
import HandS.Head2
set_option Elab.async false
set_option linter.all false
set_option maxRecDepth 100000
/-! The data layer: values as trees, slots that are owned or frozen, results, and what each judgement of the hand layer says of them. -/
namespace DL
open PySem PySem.Spec L2
open PyProof.Rows hiding St

inductive D where
  | non | bl (b : Bool) | int (i : Int) | str (s : Str)
  | lst (xs : List D) | tup (xs : List D)
  | dK (kvs : List (Key × D))
  | exc (c : Str) (v : D)
  | scr (xs : List Int)

structure Cb where
  K : PySem.W.Frag
  mg : Str → Option Value
  errs : List Str
/-- .. and of a def: how many parameters it has -/
structure Cn where
  b : Cb
  np : Nat

/-- an exception object of the class at T, its own dict at dx -/
def ExH (T dx a : Addr) : HO := .ext fun h => ∃ (oe : Obj) (vs : Array Value), h.get? a = some oe ∧ oe.cls = .ref T ∧ oe.dict = some dx ∧ oe.data = .fields vs

mutual
def den (C : Cb) (G : Hp) : D → V → Prop
  | .non, v => v = .non
  | .bl b, v => v = .bl b
  | .int i, v => v = .int i
  | .str s, v => v = .str s
  | .lst xs, v => ∃ a vs, v = .ref a ∧ G a = some (.lst vs) ∧ denL C G xs vs
  | .tup xs, v => ∃ a vs, v = .ref a ∧ SqT C.K G a vs ∧ denL C G xs vs
  | .dK kvs, v => ∃ a ws, v = .ref a ∧ G a = some (.dK ws) ∧ denK C G kvs ws
  | .exc c d, v => ∃ a dx T u, v = .ref a ∧ (c ∈ C.errs ∧ C.mg c = some (.ref T)) ∧ G a = some (ExH T dx a) ∧ G dx = some (.xd [(("value" : Str), u)]) ∧ den C G d u
  | .scr xs, v => ∃ a, v = .ref a ∧ SqL C.K G a (xs.map V.int)
def denL (C : Cb) (G : Hp) : List D → List V → Prop
  | [], vs => vs = []
  | d :: ds, vs => ∃ v r, vs = v :: r ∧ den C G d v ∧ denL C G ds r
def denK (C : Cb) (G : Hp) : List (Key × D) → List (Key × V) → Prop
  | [], ws => ws = []
  | (k, d) :: r, ws => ∃ v s, ws = (k, v) :: s ∧ den C G d v ∧ denK C G r s
end

def Sub (G G' : Hp) : Prop := ∀ a o, G a = some o → G' a = some o
theorem Sub.rfl {G : Hp} : Sub G G := fun _ _ e => e
theorem Sub.trans {G G' G'' : Hp} (h : Sub G G') (h' : Sub G' G'') : Sub G G'' := fun a o e => h' a o (h a o e)
theorem Sub.new {G : Hp} {p : Addr} {o : HO} (h : G p = none) : Sub G (upd G p o) := fun a u e => by
  have : a ≠ p := fun z => by rw [z, h] at e; cases e
  rw [upd_ne this]; exact e
theorem Sub.rd {G G' : Hp} (h : Sub G G') {a : Addr} {u : HO} (r : Rd G a u) : Rd G' a u := by
  rcases r with r | ⟨o, r⟩
  · exact .inl (h _ _ r)
  · exact .inr ⟨o, h _ _ r⟩
theorem Sub.sqT {G G' : Hp} (h : Sub G G') {K : PySem.W.Frag} {a : Addr} {xs : List V} (r : SqT K G a xs) : SqT K G' a xs := by
  rcases r with r | r
  · exact .inl (h.rd r)
  · exact .inr r
theorem Sub.sqL {G G' : Hp} (h : Sub G G') {K : PySem.W.Frag} {a : Addr} {xs : List V} (r : SqL K G a xs) : SqL K G' a xs := by
  rcases r with r | r
  · exact .inl (h.rd r)
  · exact .inr r

section
variable {C : Cb} {G G' : Hp}
mutual
theorem den.mono (h : Sub G G') : ∀ (d : D) (v : V), den C G d v → den C G' d v
  | .non, v, e => e
  | .bl b, v, e => e
  | .int i, v, e => e
  | .str s, v, e => e
  | .lst xs, v, e => by
    unfold den at e ⊢
    obtain ⟨a, vs, e1, e2, e3⟩ := e
    exact ⟨a, vs, e1, h _ _ e2, denL.mono h xs vs e3⟩
  | .tup xs, v, e => by
    unfold den at e ⊢
    obtain ⟨a, vs, e1, e2, e3⟩ := e
    exact ⟨a, vs, e1, h.sqT e2, denL.mono h xs vs e3⟩
  | .dK kvs, v, e => by
    unfold den at e ⊢
    obtain ⟨a, ws, e1, e2, e3⟩ := e
    exact ⟨a, ws, e1, h _ _ e2, denK.mono h kvs ws e3⟩
  | .exc c d, v, e => by
    unfold den at e ⊢
    obtain ⟨a, dx, T, u, e1, e2, e3, e4, e5⟩ := e
    exact ⟨a, dx, T, u, e1, e2, h _ _ e3, h _ _ e4, den.mono h d u e5⟩
  | .scr xs, v, e => by
    unfold den at e ⊢
    obtain ⟨a, e1, e2⟩ := e
    exact ⟨a, e1, h.sqL e2⟩
theorem denL.mono (h : Sub G G') : ∀ (ds : List D) (vs : List V), denL C G ds vs → denL C G' ds vs
  | [], vs, e => e
  | d :: ds, vs, e => by
    unfold denL at e ⊢
    obtain ⟨v, r, e1, e2, e3⟩ := e
    exact ⟨v, r, e1, den.mono h d v e2, denL.mono h ds r e3⟩
theorem denK.mono (h : Sub G G') : ∀ (ds : List (Key × D)) (vs : List (Key × V)), denK C G ds vs → denK C G' ds vs
  | [], vs, e => e
  | (k, d) :: ds, vs, e => by
    unfold denK at e ⊢
    obtain ⟨v, r, e1, e2, e3⟩ := e
    exact ⟨v, r, e1, den.mono h d v e2, denK.mono h ds r e3⟩
end
end

/-! ### slots, results -/
abbrev Slot := Option (Bool × D)
abbrev DEnv := List Slot
inductive R (α : Type) where
  | ok (a : α) (ρ : DEnv)
  | exc (c : Str) (d : D) (ρ : DEnv)
  | bad
abbrev M (α : Type) := DEnv → R α
def R.bind {α β : Type} (r : R α) (k : α → DEnv → R β) : R β := match r with
  | .ok a ρ => k a ρ
  | .exc c d ρ => .exc c d ρ
  | .bad => .bad
@[simp] theorem R.bind_ok {α β : Type} (a : α) (ρ : DEnv) (k : α → DEnv → R β) : (R.ok a ρ).bind k = k a ρ := rfl
@[simp] theorem R.bind_exc {α β : Type} (c : Str) (d : D) (ρ : DEnv) (k : α → DEnv → R β) : (R.exc c d ρ : R α).bind k = .exc c d ρ := rfl
@[simp] theorem R.bind_bad {α β : Type} (k : α → DEnv → R β) : (R.bad : R α).bind k = .bad := rfl
inductive Opd where
  | val (d : D) | own (d : D) | slot (i : Nat)
inductive Fl where
  | nx | bk | ct | rt (o : Opd)

/-- what an owned address holds -/
def ownAt (C : Cb) (G H : Hp) (p : Addr) : D → Prop
  | .lst xs => ∃ vs, H p = some (.lst vs) ∧ denL C G xs vs
  | .dK kvs => ∃ ws, H p = some (.dK ws) ∧ denK C G kvs ws
  | _ => False

/-- what can be owned at all -/
def isCont : D → Bool
  | .lst _ => true
  | .dK _ => true
  | _ => false
/-- a frame's ground: the heap and the frozen part at its entry, what it borrowed -/
structure Gr where
  H0 : Hp
  G0 : Hp
  B : List (Nat × Addr)

structure ED (C : Cn) (Y : Gr) (G : Hp) (σ : St) (H : Hp) (ρ : DEnv) : Prop where
  sub : Sub G H
  frz : ∀ (i : Nat) (d : D), ρ[i]? = some (some (false, d)) → ∃ v, σ[i]? = some (some v) ∧ den C.b G d v
  own : ∀ (i : Nat) (d : D), ρ[i]? = some (some (true, d)) → ∃ p, σ[i]? = some (some (.ref p)) ∧ G p = none ∧ ownAt C.b G H p d ∧ (Y.H0 p = none ∨ (i, p) ∈ Y.B)
  ap : ∀ (i j : Nat) (d e : D) (p : Addr), i ≠ j → ρ[i]? = some (some (true, d)) → ρ[j]? = some (some (true, e)) → σ[i]? = some (some (.ref p)) → σ[j]? = some (some (.ref p)) → False
  len : ρ.length = σ.length
  bor : ∀ (i : Nat) (p : Addr), (i, p) ∈ Y.B → σ[i]? = some (some (.ref p)) ∧ i < C.np ∧ ∃ b d, ρ[i]? = some (some (b, d)) ∧ isCont d = true ∧ (b = true ∨ ∃ o, G p = some o)
  old : ∀ a o, Y.H0 a = some o → (∀ i, (i, a) ∉ Y.B) → H a = some o
  fz : ∀ a o, G a = some o → Y.H0 a = none ∨ Y.G0 a = some o ∨ ∃ i, (i, a) ∈ Y.B
  g0 : Sub Y.G0 G

/-- a result's value -/
def OD (C : Cn) (Y : Gr) (G : Hp) (σ : St) (H : Hp) (ρ : DEnv) : Opd → V → Prop
  | .val d, v => den C.b G d v
  | .own d, v => ∃ p, v = .ref p ∧ G p = none ∧ ownAt C.b G H p d ∧ Y.H0 p = none ∧ ∀ (i : Nat) (e : D), ρ[i]? = some (some (true, e)) → σ[i]? ≠ some (some (.ref p))
  | .slot i, v => σ[i]? = some (some v)

/-- an exception's own dict holds its value -/
def XD (C : Cb) (G H : Hp) (dx : Addr) (d : D) : Prop := ∃ u, H dx = some (.xd [(("value" : Str), u)]) ∧ den C G d u

/-- what must hold of a result -/
def Post (C : Cn) (W : WX) (Q : VK) (Y : Gr) (G : Hp) (σ : St) : R Opd → Prop
  | .ok o ρ => ∀ G' H v, Sub G G' → ED C Y G' σ H ρ → OD C Y G' σ H ρ o v → Q v H
  | .exc c d ρ => ∀ T dx G' H, C.b.mg c = some (.ref T) → Sub G G' → ED C Y G' σ H ρ → XD C.b G' H dx d → W (.ref T) (some dx) σ H
  | .bad => False
def PostT (C : Cn) (W : WX) (Q : Bool → Hp → Prop) (Y : Gr) (G : Hp) (σ : St) : R Bool → Prop
  | .ok b ρ => ∀ G' H, Sub G G' → ED C Y G' σ H ρ → Q b H
  | .exc c d ρ => ∀ T dx G' H, C.b.mg c = some (.ref T) → Sub G G' → ED C Y G' σ H ρ → XD C.b G' H dx d → W (.ref T) (some dx) σ H
  | .bad => False
def allOD (C : Cn) (Y : Gr) (G : Hp) (σ : St) (H : Hp) (ρ : DEnv) : List Opd → List V → Prop
  | [], vs => vs = []
  | o :: os, vs => ∃ v r, vs = v :: r ∧ OD C Y G σ H ρ o v ∧ allOD C Y G σ H ρ os r
def PostA (C : Cn) (W : WX) (Q : List V → Hp → Prop) (Y : Gr) (G : Hp) (σ : St) : R (List Opd) → Prop
  | .ok os ρ => ∀ G' H vs, Sub G G' → ED C Y G' σ H ρ → allOD C Y G' σ H ρ os vs → Q vs H
  | .exc c d ρ => ∀ T dx G' H, C.b.mg c = some (.ref T) → Sub G G' → ED C Y G' σ H ρ → XD C.b G' H dx d → W (.ref T) (some dx) σ H
  | .bad => False
def PostS (C : Cn) (W : WX) (N : Ends) (Y : Gr) (G : Hp) : R Fl → Prop
  | .ok .nx ρ => ∀ G' σ H, Sub G G' → ED C Y G' σ H ρ → N.nx σ H
  | .ok .bk ρ => ∀ G' σ H, Sub G G' → ED C Y G' σ H ρ → N.bk σ H
  | .ok .ct ρ => ∀ G' σ H, Sub G G' → ED C Y G' σ H ρ → N.ct σ H
  | .ok (.rt o) ρ => ∀ G' σ H v, Sub G G' → ED C Y G' σ H ρ → OD C Y G' σ H ρ o v → N.rt v H
  | .exc c d ρ => ∀ T dx G' σ H, C.b.mg c = some (.ref T) → Sub G G' → ED C Y G' σ H ρ → XD C.b G' H dx d → W (.ref T) (some dx) σ H
  | .bad => False

def tE (C : Cn) (W : WX) (f : M Opd) : TE := fun σ H Q => ∃ Y G ρ, ED C Y G σ H ρ ∧ Post C W Q Y G σ (f ρ)
def tT (C : Cn) (W : WX) (f : M Bool) : TT := fun σ H Q => ∃ Y G ρ, ED C Y G σ H ρ ∧ PostT C W Q Y G σ (f ρ)
def tA (C : Cn) (W : WX) (f : M (List Opd)) : TA := fun σ H Q => ∃ Y G ρ, ED C Y G σ H ρ ∧ PostA C W Q Y G σ (f ρ)
def tS (C : Cn) (W : WX) (f : M Fl) : TS := fun N σ H => ∃ Y G ρ, ED C Y G σ H ρ ∧ PostS C W N Y G (f ρ)

section
variable {C : Cn} {W : WX} {Y : Gr} {G G' : Hp} {σ : St}
theorem Post.mono {Q : VK} (h : Sub G G') : ∀ {r : R Opd}, Post C W Q Y G σ r → Post C W Q Y G' σ r
  | .ok o ρ, p => fun G2 H v s => p G2 H v (h.trans s)
  | .exc c d ρ, p => fun T dx G2 H hc s => p T dx G2 H hc (h.trans s)
  | .bad, p => p
theorem PostT.mono {Q : Bool → Hp → Prop} (h : Sub G G') : ∀ {r : R Bool}, PostT C W Q Y G σ r → PostT C W Q Y G' σ r
  | .ok o ρ, p => fun G2 H s => p G2 H (h.trans s)
  | .exc c d ρ, p => fun T dx G2 H hc s => p T dx G2 H hc (h.trans s)
  | .bad, p => p
theorem PostA.mono {Q : List V → Hp → Prop} (h : Sub G G') : ∀ {r : R (List Opd)}, PostA C W Q Y G σ r → PostA C W Q Y G' σ r
  | .ok o ρ, p => fun G2 H v s => p G2 H v (h.trans s)
  | .exc c d ρ, p => fun T dx G2 H hc s => p T dx G2 H hc (h.trans s)
  | .bad, p => p
theorem PostS.mono {N : Ends} (h : Sub G G') : ∀ {r : R Fl}, PostS C W N Y G r → PostS C W N Y G' r
  | .ok .nx ρ, p => fun G2 σ H s => p G2 σ H (h.trans s)
  | .ok .bk ρ, p => fun G2 σ H s => p G2 σ H (h.trans s)
  | .ok .ct ρ, p => fun G2 σ H s => p G2 σ H (h.trans s)
  | .ok (.rt o) ρ, p => fun G2 σ H v s => p G2 σ H v (h.trans s)
  | .exc c d ρ, p => fun T dx G2 σ H hc s => p T dx G2 σ H hc (h.trans s)
  | .bad, p => p
end

/-! ### a judgement's reading may be strengthened -/
theorem PE.st {X : Cx} {e : Expr} {t t' : TE} (h : PE X e t) (i : ∀ σ H Q, t' σ H Q → t σ H Q) : PE X e t' := ⟨fun pins s σ H Q I q => h.run pins s σ H Q I (i σ H Q q)⟩
theorem PT.st {X : Cx} {e : Expr} {t t' : TT} (h : PT X e t) (i : ∀ σ H Q, t' σ H Q → t σ H Q) : PT X e t' := ⟨fun pins s σ H Q I q => h.run pins s σ H Q I (i σ H Q q)⟩
theorem PA.st {X : Cx} {e : List Expr} {t t' : TA} (h : PA X e t) (i : ∀ σ H Q, t' σ H Q → t σ H Q) : PA X e t' := ⟨fun pos pins s σ H Q I q => h.run pos pins s σ H Q I (i σ H Q q)⟩
theorem PS.st {X : Cx} {e : Stmt} {t t' : TS} (h : PS X e t) (i : ∀ N σ H, t' N σ H → t N σ H) : PS X e t' := ⟨fun pins s σ H Q I q => h.run pins s σ H Q I (i Q σ H q)⟩
theorem PSs.st {X : Cx} {e : List Stmt} {t t' : TS} (h : PSs X e t) (i : ∀ N σ H, t' N σ H → t N σ H) : PSs X e t' := ⟨fun pins s σ H Q I q => h.run pins s σ H Q I (i Q σ H q)⟩

/-! ### how the state may change -/
theorem ownAt.some' {C : Cb} {G H : Hp} {p : Addr} : ∀ {d : D}, ownAt C G H p d → ∃ o, H p = some o
  | .lst xs, ⟨vs, a, b⟩ => ⟨_, a⟩
  | .dK xs, ⟨vs, a, b⟩ => ⟨_, a⟩
theorem ownAt.cont {C : Cb} {G H : Hp} {p : Addr} : ∀ {d : D}, ownAt C G H p d → isCont d = true
  | .lst xs, _ => rfl
  | .dK xs, _ => rfl
section
variable {C : Cn} {Y : Gr} {G : Hp} {σ : St} {H : Hp} {ρ : DEnv}
theorem ED.h0 (E : ED C Y G σ H ρ) {p : Addr} (h : H p = none) : Y.H0 p = none := by
  cases e : Y.H0 p with
  | none => rfl
  | some o =>
    by_cases hb : ∃ i, (i, p) ∈ Y.B
    · obtain ⟨i, hb⟩ := hb
      obtain ⟨h1, hn, b, d, h2, hc, h3⟩ := E.bor i p hb
      rcases h3 with rfl | ⟨u, h3⟩
      · obtain ⟨q, q1, q2, q3, q4⟩ := E.own i d h2
        rw [h1] at q1
        cases q1
        obtain ⟨u, hu⟩ := ownAt.some' q3
        rw [h] at hu; cases hu
      · have := E.sub _ _ h3
        rw [h] at this; cases this
    · have := E.old p o e (fun i z => hb ⟨i, z⟩)
      rw [h] at this; cases this
theorem ED.gn (E : ED C Y G σ H ρ) {p : Addr} (h : H p = none) : G p = none := by
  cases e : G p with
  | none => rfl
  | some o => have := E.sub _ _ e; rw [h] at this; cases this
theorem ownAt.mono {G' H' : Hp} {p : Addr} (s : Sub G G') (k : H' p = H p) : ∀ {d : D}, ownAt C.b G H p d → ownAt C.b G' H' p d
  | .lst xs, ⟨vs, a, b⟩ => ⟨vs, k.trans a, denL.mono s _ _ b⟩
  | .dK xs, ⟨vs, a, b⟩ => ⟨vs, k.trans a, denK.mono s _ _ b⟩
theorem ownAt.some {p : Addr} : ∀ {d : D}, ownAt C.b G H p d → ∃ o, H p = some o
  | .lst xs, ⟨vs, a, b⟩ => ⟨_, a⟩
  | .dK xs, ⟨vs, a, b⟩ => ⟨_, a⟩
/-- a new cell, not owned, not frozen -/
theorem ED.laid (E : ED C Y G σ H ρ) {p : Addr} {o : HO} (h : H p = none) : ED C Y G σ (upd H p o) ρ := by
  have ne : ∀ {a u}, H a = some u → a ≠ p := fun {a u} e z => by rw [z, h] at e; cases e
  refine ⟨fun a u e => ?_, E.frz, fun i d e => ?_, E.ap, E.len, E.bor, fun a u e hb => ?_, E.fz, E.g0⟩
  · have := E.sub a u e
    rw [upd_ne (ne this)]; exact this
  · obtain ⟨q, q1, q2, q3, q4⟩ := E.own i d e
    obtain ⟨u, hu⟩ := q3.some
    exact ⟨q, q1, q2, q3.mono Sub.rfl (upd_ne (ne hu)), q4⟩
  · have := E.old a u e hb
    rw [upd_ne (ne this)]; exact this
/-- a new cell, frozen at once -/
theorem ED.froze (E : ED C Y G σ H ρ) {p : Addr} {o : HO} (h : H p = none) : ED C Y (upd G p o) σ (upd H p o) ρ := by
  have ne : ∀ {a u}, H a = some u → a ≠ p := fun {a u} e z => by rw [z, h] at e; cases e
  have gn := E.gn h
  have L := E.laid (o := o) h
  have sg : Sub G (upd G p o) := Sub.new gn
  refine ⟨fun a u e => ?_, fun i d e => ?_, fun i d e => ?_, E.ap, E.len, fun i q hb => ?_, L.old, fun a u e => ?_, E.g0.trans sg⟩
  · by_cases hp : a = p
    · subst hp; rw [upd_same] at e ⊢; exact e
    · rw [upd_ne hp] at e; exact L.sub a u e
  · obtain ⟨v, v1, v2⟩ := E.frz i d e
    exact ⟨v, v1, den.mono sg _ _ v2⟩
  · obtain ⟨q, q1, q2, q3, q4⟩ := L.own i d e
    obtain ⟨_, _, _, q3', _⟩ := E.own i d e
    have hq : q ≠ p := by
      obtain ⟨q', q1', q2', q3', q4'⟩ := E.own i d e
      rw [q1] at q1'; cases q1'
      obtain ⟨u, hu⟩ := q3'.some
      exact ne hu
    exact ⟨q, q1, by rw [upd_ne hq]; exact q2, q3.mono sg rfl, q4⟩
  · obtain ⟨h1, hn, b, d, h2, hc, h3⟩ := E.bor i q hb
    refine ⟨h1, hn, b, d, h2, hc, ?_⟩
    rcases h3 with h3 | ⟨u, h3⟩
    · exact .inl h3
    · exact .inr ⟨u, sg _ _ h3⟩
  · by_cases hp : a = p
    · subst hp; exact .inl (E.h0 h)
    · rw [upd_ne hp] at e; exact E.fz a u e
/-- a fresh owned thing becomes frozen -/
theorem ED.keepO (E : ED C Y G σ H ρ) {p : Addr} {d : D} (gn : G p = none) (o : ownAt C.b G H p d) (h0 : Y.H0 p = none) (nr : ∀ (i : Nat) (e : D), ρ[i]? = some (some (true, e)) → σ[i]? ≠ some (some (.ref p))) :
    ∃ u, H p = some u ∧ Sub G (upd G p u) ∧ ED C Y (upd G p u) σ H ρ ∧ den C.b (upd G p u) d (.ref p) := by
  obtain ⟨u, hu⟩ := o.some
  have sg : Sub G (upd G p u) := Sub.new gn
  refine ⟨u, hu, sg, ⟨fun a w e => ?_, fun i d e => ?_, fun i d e => ?_, E.ap, E.len, fun i q hb => ?_, E.old, fun a w e => ?_, E.g0.trans sg⟩, ?_⟩
  · by_cases hp : a = p
    · subst hp; rw [upd_same] at e; cases e; exact hu
    · rw [upd_ne hp] at e; exact E.sub a w e
  · obtain ⟨v, v1, v2⟩ := E.frz i d e
    exact ⟨v, v1, den.mono sg _ _ v2⟩
  · obtain ⟨q, q1, q2, q3, q4⟩ := E.own i d e
    have hq : q ≠ p := fun z => nr i d e (z ▸ q1)
    exact ⟨q, q1, by rw [upd_ne hq]; exact q2, q3.mono sg rfl, q4⟩
  · obtain ⟨h1, hn, b, d, h2, hc, h3⟩ := E.bor i q hb
    refine ⟨h1, hn, b, d, h2, hc, ?_⟩
    rcases h3 with h3 | ⟨u, h3⟩
    · exact .inl h3
    · exact .inr ⟨u, sg _ _ h3⟩
  · by_cases hp : a = p
    · subst hp; exact .inl h0
    · rw [upd_ne hp] at e; exact E.fz a w e
  · cases d <;> simp only [ownAt] at o
    · obtain ⟨vs, o1, o2⟩ := o
      rw [hu] at o1; cases o1
      unfold den
      exact ⟨p, vs, rfl, upd_same, denL.mono sg _ _ o2⟩
    · obtain ⟨vs, o1, o2⟩ := o
      rw [hu] at o1; cases o1
      unfold den
      exact ⟨p, vs, rfl, upd_same, denK.mono sg _ _ o2⟩
end
end DL

set_option Elab.async false
set_option linter.all false
set_option maxRecDepth 100000
/-! The data layer: operands, operators, builtin calls, displays, tests. -/
namespace DL
open PySem PySem.Spec L2
open PyProof.Rows hiding St

/-! ### lists of values -/
section
variable {α β : Type} {F : α → β → Prop}
theorem pd_get : ∀ {xs : List α} {ys : List β} {i : Nat} {x : α}, Paired F xs ys → xs[i]? = some x → ∃ y, ys[i]? = some y ∧ F x y
  | _, _, i, x, .nil, e => by simp at e
  | _, _, 0, x, .cons (b := b) r t, e => by
    simp at e; subst e; exact ⟨b, rfl, r⟩
  | _, _, i + 1, x, .cons r t, e => by
    obtain ⟨y, h1, h2⟩ := pd_get (i := i) t (by simpa using e)
    exact ⟨y, by simpa using h1, h2⟩
theorem pd_getR : ∀ {xs : List α} {ys : List β} {i : Nat} {y : β}, Paired F xs ys → ys[i]? = some y → ∃ x, xs[i]? = some x ∧ F x y
  | _, _, i, x, .nil, e => by simp at e
  | _, _, 0, x, .cons (a := b) r t, e => by
    simp at e; subst e; exact ⟨b, rfl, r⟩
  | _, _, i + 1, x, .cons r t, e => by
    obtain ⟨y, h1, h2⟩ := pd_getR (i := i) t (by simpa using e)
    exact ⟨y, by simpa using h1, h2⟩
theorem pd_app : ∀ {xs xs' : List α} {ys ys' : List β}, Paired F xs ys → Paired F xs' ys' → Paired F (xs ++ xs') (ys ++ ys')
  | _, _, _, _, .nil, s => s
  | _, _, _, _, .cons r t, s => .cons r (pd_app t s)
theorem pd_take : ∀ {xs : List α} {ys : List β} (n : Nat), Paired F xs ys → Paired F (xs.take n) (ys.take n)
  | _, _, 0, _ => by simp; exact .nil
  | _, _, _ + 1, .nil => .nil
  | _, _, n + 1, .cons r t => .cons r (pd_take n t)
theorem pd_drop : ∀ {xs : List α} {ys : List β} (n : Nat), Paired F xs ys → Paired F (xs.drop n) (ys.drop n)
  | _, _, 0, r => r
  | _, _, _ + 1, .nil => .nil
  | _, _, n + 1, .cons r t => pd_drop n t
theorem pd_set {x : α} {y : β} (r : F x y) : ∀ {xs : List α} {ys : List β} (i : Nat), Paired F xs ys → Paired F (xs.set i x) (ys.set i y)
  | _, _, _, .nil => .nil
  | _, _, 0, .cons _ t => .cons r t
  | _, _, i + 1, .cons q t => .cons q (pd_set r i t)
theorem pd_erase : ∀ {xs : List α} {ys : List β} (i : Nat), Paired F xs ys → Paired F (xs.eraseIdx i) (ys.eraseIdx i)
  | _, _, _, .nil => .nil
  | _, _, 0, .cons _ t => t
  | _, _, i + 1, .cons q t => .cons q (pd_erase i t)
theorem pd_map {γ δ : Type} {f : γ → α} {g : δ → β} : ∀ {xs : List γ} {ys : List δ}, Paired (fun x y => F (f x) (g y)) xs ys → Paired F (xs.map f) (ys.map g)
  | _, _, .nil => .nil
  | _, _, .cons r t => .cons r (pd_map t)
end
section
variable {C : Cb} {G : Hp}
theorem denL_iff : ∀ {ds : List D} {vs : List V}, denL C G ds vs ↔ Paired (den C G) ds vs
  | [], vs => by
    unfold denL
    constructor
    · rintro rfl; exact .nil
    · intro h; cases h; rfl
  | d :: ds, vs => by
    unfold denL
    constructor
    · rintro ⟨v, r, rfl, h1, h2⟩; exact .cons h1 (denL_iff.mp h2)
    · intro h; cases h with | cons a b => exact ⟨_, _, rfl, a, denL_iff.mpr b⟩
theorem denK_iff : ∀ {ds : List (Key × D)} {vs : List (Key × V)}, denK C G ds vs ↔ Paired (fun p q => p.1 = q.1 ∧ den C G p.2 q.2) ds vs
  | [], vs => by
    unfold denK
    constructor
    · rintro rfl; exact .nil
    · intro h; cases h; rfl
  | (k, d) :: ds, vs => by
    unfold denK
    constructor
    · rintro ⟨v, r, rfl, h1, h2⟩; exact .cons ⟨rfl, h1⟩ (denK_iff.mp h2)
    · intro h
      cases h with
      | cons a b =>
        rename_i q r
        obtain ⟨k', v'⟩ := q
        obtain ⟨h1, h2⟩ := a
        dsimp only at h1 h2
        subst h1
        exact ⟨_, _, rfl, h2, denK_iff.mpr b⟩
theorem denL.len {ds : List D} {vs : List V} (h : denL C G ds vs) : ds.length = vs.length := (denL_iff.mp h).length
end

/-! ### what a place holds, frozen or owned -/
def DV (C : Cb) (G H : Hp) (d : D) (v : V) : Prop := den C G d v ∨ ∃ p, v = .ref p ∧ ownAt C G H p d
section
variable {C : Cb} {Y : Gr} {G H : Hp} {σ : St} {ρ : DEnv} {v : V}
theorem DV.lst (s : Sub G H) {xs : List D} (h : DV C G H (.lst xs) v) : ∃ a vs, v = .ref a ∧ H a = some (.lst vs) ∧ denL C G xs vs := by
  rcases h with h | ⟨p, rfl, vs, h1, h2⟩
  · unfold den at h
    obtain ⟨a, vs, rfl, h1, h2⟩ := h
    exact ⟨a, vs, rfl, s _ _ h1, h2⟩
  · exact ⟨p, vs, rfl, h1, h2⟩
theorem DV.dK (s : Sub G H) {xs : List (Key × D)} (h : DV C G H (.dK xs) v) : ∃ a vs, v = .ref a ∧ H a = some (.dK vs) ∧ denK C G xs vs := by
  rcases h with h | ⟨p, rfl, vs, h1, h2⟩
  · unfold den at h
    obtain ⟨a, vs, rfl, h1, h2⟩ := h
    exact ⟨a, vs, rfl, s _ _ h1, h2⟩
  · exact ⟨p, vs, rfl, h1, h2⟩
theorem DV.tup {K : PySem.W.Frag} (hK : C.K = K) (s : Sub G H) {xs : List D} (h : DV C G H (.tup xs) v) : ∃ a vs, v = .ref a ∧ SqT K H a vs ∧ denL C G xs vs := by
  rcases h with h | ⟨p, rfl, h⟩
  · unfold den at h
    obtain ⟨a, vs, rfl, h1, h2⟩ := h
    exact ⟨a, vs, rfl, by rw [← hK]; exact s.sqT h1, h2⟩
  · exact h.elim
theorem DV.int {i : Int} (h : DV C G H (.int i) v) : v = .int i := by
  rcases h with h | ⟨p, _, h⟩
  · unfold den at h; exact h
  · exact h.elim
theorem DV.bl {i : Bool} (h : DV C G H (.bl i) v) : v = .bl i := by
  rcases h with h | ⟨p, _, h⟩
  · unfold den at h; exact h
  · exact h.elim
theorem DV.str {i : Str} (h : DV C G H (.str i) v) : v = .str i := by
  rcases h with h | ⟨p, _, h⟩
  · unfold den at h; exact h
  · exact h.elim
theorem DV.non (h : DV C G H .non v) : v = .non := by
  rcases h with h | ⟨p, _, h⟩
  · unfold den at h; exact h
  · exact h.elim
theorem DV.scr {K : PySem.W.Frag} (hK : C.K = K) {i : List Int} (s : Sub G H) (h : DV C G H (.scr i) v) : ∃ a, v = .ref a ∧ SqL K H a (i.map V.int) := by
  rcases h with h | ⟨p, _, h⟩
  · unfold den at h
    obtain ⟨a, rfl, h⟩ := h
    exact ⟨a, rfl, by rw [← hK]; exact s.sqL h⟩
  · exact h.elim
end

def look (o : Opd) (ρ : DEnv) : Option D := match o with
  | .val d => some d
  | .own d => some d
  | .slot i => match ρ[i]? with
    | some (some (_, d)) => some d
    | _ => none
def nrmO : Opd → Opd
  | .own d => .val d
  | o => o
/-- an operand that stays while others are reckoned: nothing fresh and owned -/
def Pl : Opd → Prop
  | .own _ => False
  | _ => True
def nrm (f : M Opd) : M Opd := fun ρ => (f ρ).bind fun o ρ1 => .ok (nrmO o) ρ1
theorem nrmO_pl : ∀ o, Pl (nrmO o)
  | .val _ => trivial
  | .own _ => trivial
  | .slot _ => trivial
section
variable {C : Cn} {Y : Gr} {G G' H H' : Hp} {σ : St} {ρ ρ' : DEnv} {v : V} {o : Opd}
theorem OD.mv (h : OD C Y G σ H ρ o v) (p : Pl o) (s : Sub G G') : OD C Y G' σ H' ρ' o v := by
  cases o with
  | val d => exact den.mono s _ _ h
  | slot i => exact h
  | own d => exact p.elim
theorem look_ok (E : ED C Y G σ H ρ) (h : OD C Y G σ H ρ o v) {d : D} (e : look o ρ = some d) : DV C.b G H d v := by
  cases o with
  | val d' => cases e; exact .inl h
  | own d' =>
    cases e
    obtain ⟨p, rfl, _, h2, _⟩ := h
    exact .inr ⟨p, rfl, h2⟩
  | slot i =>
    unfold look at e
    dsimp only at e
    split at e
    · rename_i b d' hr
      cases e
      cases b with
      | false =>
        obtain ⟨w, w1, w2⟩ := E.frz i _ hr
        have : σ[i]? = some (some v) := h
        rw [this] at w1; cases w1
        exact .inl w2
      | true =>
        obtain ⟨p, w1, w2, w3, _⟩ := E.own i _ hr
        have : σ[i]? = some (some v) := h
        rw [this] at w1; cases w1
        exact .inr ⟨p, rfl, w3⟩
    · cases e
end

section
variable {X : Cx} {C : Cn} {W : WX} {e a b : Expr} {f g : M Opd} {pos : Pos}

theorem tE_nrm {σ : St} {H : Hp} {Q : VK} (h : tE C W (nrm f) σ H Q) : tE C W f σ H Q := by
  obtain ⟨Y, G, ρ, E, p⟩ := h
  refine ⟨Y, G, ρ, E, ?_⟩
  unfold nrm at p
  cases hf : f ρ with
  | bad => rw [hf] at p; exact p
  | exc c d ρ1 => rw [hf] at p; exact p
  | ok o ρ1 =>
    rw [hf] at p
    cases o with
    | val d => exact p
    | slot i => exact p
    | own d =>
      intro G' H' v s E' od
      obtain ⟨q, rfl, gn, oa, h0, nr⟩ := od
      obtain ⟨u, hu, sg, E2, dn⟩ := E'.keepO gn oa h0 nr
      exact p (upd G' q u) H' _ (s.trans sg) E2 dn
theorem pe_nrm (h : PE X e (tE C W f)) : PE X e (tE C W (nrm f)) := PE.st h fun _ _ _ q => tE_nrm q

/-- what is asked of a result, whatever its kind -/
structure Lk (C : Cn) (W : WX) (Y : Gr) (σ : St) {β : Type} (P : Hp → R β → Prop) : Prop where
  mono : ∀ {G G' r}, Sub G G' → P G r → P G' r
  exc : ∀ {G c d ρ}, P G (.exc c d ρ) → ∀ T dx G' H, C.b.mg c = some (.ref T) → Sub G G' → ED C Y G' σ H ρ → XD C.b G' H dx d → W (.ref T) (some dx) σ H
  bad : ∀ {G}, P G .bad → False
theorem Post.lk {Y : Gr} {σ : St} {Q : VK} : Lk C W Y σ (fun G r => Post C W Q Y G σ r) := ⟨fun s p => p.mono s, fun p => p, fun p => p⟩
theorem PostT.lk {Y : Gr} {σ : St} {Q : Bool → Hp → Prop} : Lk C W Y σ (fun G r => PostT C W Q Y G σ r) := ⟨fun s p => p.mono s, fun p => p, fun p => p⟩
theorem PostA.lk {Y : Gr} {σ : St} {Q : List V → Hp → Prop} : Lk C W Y σ (fun G r => PostA C W Q Y G σ r) := ⟨fun s p => p.mono s, fun p => p, fun p => p⟩
theorem PostS.lk {Y : Gr} {σ : St} {N : Ends} : Lk C W Y σ (fun G r => PostS C W N Y G r) := ⟨fun s p => p.mono s, fun p T dx G' H => p T dx G' σ H, fun p => p⟩

/-- one operand as it is, then what follows -/
theorem seq0 {β : Type} {Y : Gr} {G : Hp} {σ : St} {H : Hp} {ρ : DEnv} {P : Hp → R β → Prop} (L : Lk C W Y σ P) {k : Opd → DEnv → R β} (E : ED C Y G σ H ρ) (p : P G ((f ρ).bind k)) {S : VK}
    (h : ∀ G' H1 ρ1 o v, Sub G G' → ED C Y G' σ H1 ρ1 → OD C Y G' σ H1 ρ1 o v → P G' (k o ρ1) → S v H1) : tE C W f σ H S := by
  refine ⟨Y, G, ρ, E, ?_⟩
  cases hf : f ρ with
  | bad => rw [hf] at p; exact (L.bad p).elim
  | exc c d ρ1 => rw [hf] at p; exact L.exc p
  | ok o ρ1 =>
    rw [hf] at p
    intro G' H' v s E' od
    exact h G' H' ρ1 o v s E' od (L.mono s p)
/-- one operand that stays, then what follows -/
theorem seq1 {β : Type} {Y : Gr} {G : Hp} {σ : St} {H : Hp} {ρ : DEnv} {P : Hp → R β → Prop} (L : Lk C W Y σ P) {k : Opd → DEnv → R β} (E : ED C Y G σ H ρ) (p : P G ((nrm f ρ).bind k)) {S : VK}
    (h : ∀ G' H1 ρ1 o v, Sub G G' → Pl o → ED C Y G' σ H1 ρ1 → OD C Y G' σ H1 ρ1 o v → P G' (k o ρ1) → S v H1) : tE C W f σ H S := by
  refine tE_nrm ⟨Y, G, ρ, E, ?_⟩
  have hpl : ∀ o ρ1, nrm f ρ = .ok o ρ1 → Pl o := fun o ρ1 e => by
    unfold nrm at e
    cases hf : f ρ with
    | ok o' ρ' => rw [hf] at e; cases e; exact nrmO_pl _
    | exc c d ρ' => rw [hf] at e; cases e
    | bad => rw [hf] at e; cases e
  cases hf : nrm f ρ with
  | bad => rw [hf] at p; exact (L.bad p).elim
  | exc c d ρ1 => rw [hf] at p; exact L.exc p
  | ok o ρ1 =>
    rw [hf] at p
    intro G' H' v s E' od
    exact h G' H' ρ1 o v s (hpl _ _ hf) E' od (L.mono s p)
/-- a test, then what follows -/
theorem seqT {β : Type} {Y : Gr} {G : Hp} {σ : St} {H : Hp} {ρ : DEnv} {P : Hp → R β → Prop} (L : Lk C W Y σ P) {t : M Bool} {k : Bool → DEnv → R β} (E : ED C Y G σ H ρ) (p : P G ((t ρ).bind k)) {S : Bool → Hp → Prop}
    (h : ∀ G' H1 ρ1 b, Sub G G' → ED C Y G' σ H1 ρ1 → P G' (k b ρ1) → S b H1) : tT C W t σ H S := by
  refine ⟨Y, G, ρ, E, ?_⟩
  cases hf : t ρ with
  | bad => rw [hf] at p; exact (L.bad p).elim
  | exc c d ρ1 => rw [hf] at p; exact L.exc p
  | ok o ρ1 =>
    rw [hf] at p
    intro G' H' s E'
    exact h G' H' ρ1 o s E' (L.mono s p)
/-- arguments, then what follows -/
theorem seqA {β : Type} {Y : Gr} {G : Hp} {σ : St} {H : Hp} {ρ : DEnv} {P : Hp → R β → Prop} (L : Lk C W Y σ P) {t : M (List Opd)} {k : List Opd → DEnv → R β} (E : ED C Y G σ H ρ) (p : P G ((t ρ).bind k)) {S : List V → Hp → Prop}
    (h : ∀ G' H1 ρ1 os vs, Sub G G' → ED C Y G' σ H1 ρ1 → allOD C Y G' σ H1 ρ1 os vs → P G' (k os ρ1) → S vs H1) : tA C W t σ H S := by
  refine ⟨Y, G, ρ, E, ?_⟩
  cases hf : t ρ with
  | bad => rw [hf] at p; exact (L.bad p).elim
  | exc c d ρ1 => rw [hf] at p; exact L.exc p
  | ok o ρ1 =>
    rw [hf] at p
    intro G' H' v s E' od
    exact h G' H' ρ1 o v s E' od (L.mono s p)

def fin1 (F : D → Option Opd) (x : Opd) (ρ : DEnv) : R Opd := match look x ρ with
  | some a => match F a with
    | some o => .ok o ρ
    | none => .bad
  | none => .bad
def fin2 (F : D → D → Option Opd) (x y : Opd) (ρ : DEnv) : R Opd := match look x ρ, look y ρ with
  | some a, some b => match F a b with
    | some o => .ok o ρ
    | none => .bad
  | _, _ => .bad
def e1 (f : M Opd) (F : D → Option Opd) : M Opd := fun ρ => (nrm f ρ).bind fun x ρ1 => fin1 F x ρ1
def e2 (f g : M Opd) (F : D → D → Option Opd) : M Opd := fun ρ => (nrm f ρ).bind fun x ρ1 => (nrm g ρ1).bind fun y ρ2 => fin2 F x y ρ2

/-- what follows: any end of the result's kind -/
def Aft (C : Cn) (Y : Gr) (G : Hp) (σ : St) (ρ : DEnv) (o : Opd) (Q : VK) : Prop := ∀ G' H' v, Sub G G' → ED C Y G' σ H' ρ → OD C Y G' σ H' ρ o v → Q v H'
def OpD (C : Cn) (F : D → D → Option Opd) (r : R2) : Prop := ∀ {Y : Gr} {G : Hp} {σ : St} {H : Hp} {ρ : DEnv} {Q : VK} {x y : V} {dx dy : D} {o : Opd}, ED C Y G σ H ρ → DV C.b G H dx x → DV C.b G H dy y → F dx dy = some o → Aft C Y G σ ρ o Q → r x y H Q
def UnD (C : Cn) (F : D → Option Opd) (r : V → Hp → VK → Prop) : Prop := ∀ {Y : Gr} {G : Hp} {σ : St} {H : Hp} {ρ : DEnv} {Q : VK} {x : V} {dx : D} {o : Opd}, ED C Y G σ H ρ → DV C.b G H dx x → F dx = some o → Aft C Y G σ ρ o Q → r x H Q

theorem fin2_ok {r : R2} {F : D → D → Option Opd} (hF : OpD C F r) {Y : Gr} {G : Hp} {σ : St} {H : Hp} {ρ : DEnv} {Q : VK} {o1 o2 : Opd} {v1 v2 : V} (E : ED C Y G σ H ρ) (h1 : OD C Y G σ H ρ o1 v1) (h2 : OD C Y G σ H ρ o2 v2)
    {P : Hp → R Opd → Prop} (p : P G (fin2 F o1 o2 ρ)) (hp : ∀ {o}, P G (.ok o ρ) → Aft C Y G σ ρ o Q) (hb : P G .bad → False) : r v1 v2 H Q := by
  unfold fin2 at p
  cases l1 : look o1 ρ with
  | none => rw [l1] at p; exact (hb p).elim
  | some d1 =>
    cases l2 : look o2 ρ with
    | none => rw [l1, l2] at p; exact (hb p).elim
    | some d2 =>
      rw [l1, l2] at p
      dsimp only at p
      cases hf : F d1 d2 with
      | none => rw [hf] at p; exact (hb p).elim
      | some o =>
        rw [hf] at p
        exact hF E (look_ok E h1 l1) (look_ok E h2 l2) hf (hp p)
theorem tOp_of {r : R2} {F : D → D → Option Opd} (hF : OpD C F r) {σ : St} {H : Hp} {Q : VK} (h : tE C W (e2 f g F) σ H Q) : tOp r (tE C W f) (tE C W g) σ H Q := by
  obtain ⟨Y, G, ρ, E, p⟩ := h
  refine seq1 Post.lk E p fun G1 H1 ρ1 o1 v1 s1 pl1 E1 od1 p1 => ?_
  refine seq1 Post.lk E1 p1 fun G2 H2 ρ2 o2 v2 s2 pl2 E2 od2 p2 => ?_
  exact fin2_ok hF (P := fun G r => Post C W Q Y G σ r) E2 (od1.mv pl1 s2) od2 p2 (fun q => q) (fun q => q)
theorem pe_op2 {op : Operator} {r : R2} {F : D → D → Option Opd} (ho : OpR X (binaryOp op) r) (hF : OpD C F r) (ha : PE X a (tE C W f)) (hb : PE X b (tE C W g)) : PE X (.BinOp a op b pos) (tE C W (e2 f g F)) :=
  PE.st (pe_op ho ha hb) fun _ _ _ h => tOp_of hF h
theorem pe_cmp2 {op : CmpOp} {r : R2} {F : D → D → Option Opd} (ho : OpR X (compareOp op) r) (hF : OpD C F r) (ha : PE X a (tE C W f)) (hb : PE X b (tE C W g)) (hm : behindInMarks op b = false) : PE X (.Compare a [op] [b] pos) (tE C W (e2 f g F)) :=
  PE.st (pe_cmpR ho ha hb hm) fun _ _ _ h => tOp_of hF h
theorem pe_un1 {op : UnaryOp} {r : V → Hp → VK → Prop} {F : D → Option Opd} (ho : UnR X (unaryOp op) r) (hF : UnD C F r) (ha : PE X a (tE C W f)) : PE X (.UnaryOp op a pos) (tE C W (e1 f F)) := by
  refine PE.st (pe_un ho ha) fun σ H Q h => ?_
  obtain ⟨Y, G, ρ, E, p⟩ := h
  refine seq1 Post.lk E p fun G1 H1 ρ1 o1 v1 s1 pl1 E1 od1 p1 => ?_
  unfold fin1 at p1
  cases l1 : look o1 ρ1 with
  | none => rw [l1] at p1; exact p1.elim
  | some d1 =>
    rw [l1] at p1
    dsimp only at p1
    cases hf : F d1 with
    | none => rw [hf] at p1; exact p1.elim
    | some o => rw [hf] at p1; exact hF E1 (look_ok E1 od1 l1) hf p1

/-! ### tests -/
def finT (o : Opd) (ρ : DEnv) : R Bool := match look o ρ with
  | some (.bl b) => .ok b ρ
  | _ => .bad
def tV (f : M Opd) : M Bool := fun ρ => (nrm f ρ).bind finT
theorem finT_ok {Y : Gr} {G : Hp} {σ : St} {H : Hp} {ρ : DEnv} {o : Opd} {v : V} (E : ED C Y G σ H ρ) (od : OD C Y G σ H ρ o v) {P : R Bool → Prop} (p : P (finT o ρ)) (hb : P .bad → False) : ∃ b, v = .bl b ∧ P (.ok b ρ) := by
  unfold finT at p
  cases l : look o ρ with
  | none => rw [l] at p; exact (hb p).elim
  | some d =>
    rw [l] at p
    cases d with
    | bl b => exact ⟨b, (look_ok E od l).bl, p⟩
    | _ => exact (hb p).elim
theorem tB_of {σ : St} {H : Hp} {Q : Bool → Hp → Prop} (h : tT C W (tV f) σ H Q) : tB (tE C W f) σ H Q := by
  obtain ⟨Y, G, ρ, E, p⟩ := h
  refine seq1 PostT.lk E p fun G1 H1 ρ1 o1 v1 s1 pl1 E1 od1 p1 => ?_
  obtain ⟨b, rfl, q⟩ := finT_ok E1 od1 p1 (fun z => z)
  exact ⟨b, rfl, q G1 H1 Sub.rfl E1⟩
theorem pt_valD (h : PE X e (tE C W f)) (he : ∀ whole, isTrue e X.env whole = (do let v ← whole; standAt e.pos; holding [v] (truthy v)) := by intro _; rfl) : PT X e (tT C W (tV f)) :=
  PT.st (pt_val h he) fun _ _ _ q => tB_of q
theorem pt_cmp2 {op : CmpOp} {r : R2} {F : D → D → Option Opd} (ho : OpR X (compareOp op) r) (hF : OpD C F r) (ha : PE X a (tE C W f)) (hb : PE X b (tE C W g)) (hm : behindInMarks op b = false) : PT X (.Compare a [op] [b] pos) (tT C W (tV (e2 f g F))) := by
  refine PT.st (pt_cmpR ho ha hb hm) fun σ H Q h => ?_
  have h2 := tB_of h
  exact tOp_of hF h2
end
end DL

set_option Elab.async false
set_option linter.all false
set_option maxRecDepth 100000
/-! The data layer: names, constants, and / or / if, arguments, displays, freezing. -/
namespace DL
open PySem PySem.Spec L2
open PyProof.Rows hiding St

def eC (d : D) : M Opd := fun ρ => .ok (.val d) ρ
def eV (i : Nat) : M Opd := fun ρ => match ρ[i]? with
  | some (some _) => .ok (.slot i) ρ
  | _ => .bad

section
variable {X : Cx} {C : Cn} {W : WX} {e a b : Expr} {f g h : M Opd} {pos : Pos}
theorem tC_of {d : D} {v : V} (hd : ∀ G, den C.b G d v) {σ : St} {H : Hp} {Q : VK} (q : tE C W (eC d) σ H Q) : tC v σ H Q := by
  obtain ⟨Y, G, ρ, E, p⟩ := q
  exact p G H v Sub.rfl E (hd G)
theorem de_int {i j pos} : PE X (.Constant (.int i) j pos) (tE C W (eC (.int i))) := PE.st pe_int fun _ _ _ q => tC_of (fun _ => by unfold den; rfl) q
theorem de_bl {i j pos} : PE X (.Constant (.bool i) j pos) (tE C W (eC (.bl i))) := PE.st pe_bl fun _ _ _ q => tC_of (fun _ => by unfold den; rfl) q
theorem de_non {j pos} : PE X (.Constant .none j pos) (tE C W (eC .non)) := PE.st pe_non fun _ _ _ q => tC_of (fun _ => by unfold den; rfl) q
theorem de_str {i j pos} : PE X (.Constant (.str i) j pos) (tE C W (eC (.str i))) := PE.st pe_str fun _ _ _ q => tC_of (fun _ => by unfold den; rfl) q
theorem de_var (i : Nat) {x : Str} {pos : Pos} (hN : X.N[i]? = some x := by rfl) (hv : Vis X.env.scope x := by first | exact Or.inl rfl | exact Or.inr (Or.inl rfl) | exact Or.inr (Or.inr rfl)) (hd : (x == ("__debug__" : Str)) = false := by decide)
    (hcd : (x == ("__classdict__" : Str)) = false := by decide) : PE X (.Name x pos) (tE C W (eV i)) := by
  refine PE.st (pe_var hN hv hd hcd) fun σ H Q q => ?_
  obtain ⟨Y, G, ρ, E, p⟩ := q
  unfold eV at p
  split at p
  · rename_i bd hr
    obtain ⟨bb, d⟩ := bd
    have : ∃ v, σ[i]? = some (some v) := by
      cases bb with
      | false => obtain ⟨v, h1, _⟩ := E.frz i d hr; exact ⟨v, h1⟩
      | true => obtain ⟨v, h1, _⟩ := E.own i d hr; exact ⟨_, h1⟩
    obtain ⟨v, hv⟩ := this
    exact ⟨v, hv, p G H v Sub.rfl E hv⟩
  · exact p.elim
/-- a constant of the module, or of the built-ins, that is a plain value -/
theorem de_glob {x : Str} {d : D} {v : V} {u : Value} {pos : Pos} (hg : Gl X x) (hm : X.mg x = some u) (r : RelV v u) (hd : ∀ G, den C.b G d v) (hdb : (x == ("__debug__" : Str)) = false := by decide) : PE X (.Name x pos) (tE C W (eC d)) :=
  PE.st (pe_glob hg hm r hdb) fun _ _ _ q => tC_of hd q

/-! ### and, or, not, if -/
def eAnd (f g : M Opd) : M Opd := fun ρ => (nrm f ρ).bind fun o ρ1 => match look o ρ1 with
  | some (.bl true) => g ρ1
  | some (.bl false) => .ok (.val (.bl false)) ρ1
  | _ => .bad
def eOr (f g : M Opd) : M Opd := fun ρ => (nrm f ρ).bind fun o ρ1 => match look o ρ1 with
  | some (.bl false) => g ρ1
  | some (.bl true) => .ok (.val (.bl true)) ρ1
  | _ => .bad
def notF : D → Option Opd
  | .bl b => some (.val (.bl (!b)))
  | _ => none
def eIf (t : M Bool) (f g : M Opd) : M Opd := fun ρ => (t ρ).bind fun b ρ1 => if b then f ρ1 else g ρ1
variable {rest : List Expr}
theorem de_one {op} (h : PE X a (tE C W f)) : PE X (.BoolOp op [a] pos) (tE C W f) := pe_one h
theorem de_and (ha : PE X a (tE C W f)) (hb : PE X (.BoolOp .And (b :: rest) pos) (tE C W g)) : PE X (.BoolOp .And (a :: b :: rest) pos) (tE C W (eAnd f g)) := by
  refine PE.st (pe_and ha hb) fun σ H Q q => ?_
  obtain ⟨Y, G, ρ, E, p⟩ := q
  refine seq1 Post.lk E p fun G1 H1 ρ1 o1 v1 s1 pl1 E1 od1 p1 => ?_
  cases l : look o1 ρ1 with
  | none => rw [l] at p1; exact p1.elim
  | some d =>
    rw [l] at p1
    cases d with
    | bl c =>
      refine ⟨c, (look_ok E1 od1 l).bl, ?_⟩
      cases c with
      | true => exact ⟨Y, G1, ρ1, E1, p1⟩
      | false => exact p1 G1 H1 _ Sub.rfl E1 (by unfold OD den; rfl)
    | _ => exact p1.elim
theorem de_or (ha : PE X a (tE C W f)) (hb : PE X (.BoolOp .Or (b :: rest) pos) (tE C W g)) : PE X (.BoolOp .Or (a :: b :: rest) pos) (tE C W (eOr f g)) := by
  refine PE.st (pe_or ha hb) fun σ H Q q => ?_
  obtain ⟨Y, G, ρ, E, p⟩ := q
  refine seq1 Post.lk E p fun G1 H1 ρ1 o1 v1 s1 pl1 E1 od1 p1 => ?_
  cases l : look o1 ρ1 with
  | none => rw [l] at p1; exact p1.elim
  | some d =>
    rw [l] at p1
    cases d with
    | bl c =>
      refine ⟨c, (look_ok E1 od1 l).bl, ?_⟩
      cases c with
      | false => exact ⟨Y, G1, ρ1, E1, p1⟩
      | true => exact p1 G1 H1 _ Sub.rfl E1 (by unfold OD den; rfl)
    | _ => exact p1.elim
theorem de_not (ha : PE X a (tE C W f)) : PE X (.UnaryOp .Not a pos) (tE C W (e1 f notF)) := by
  refine PE.st (pe_not ha) fun σ H Q q => ?_
  obtain ⟨Y, G, ρ, E, p⟩ := q
  refine seq1 Post.lk E p fun G1 H1 ρ1 o1 v1 s1 pl1 E1 od1 p1 => ?_
  unfold fin1 at p1
  cases l : look o1 ρ1 with
  | none => rw [l] at p1; exact p1.elim
  | some d =>
    rw [l] at p1
    cases d with
    | bl c => exact ⟨c, (look_ok E1 od1 l).bl, p1 G1 H1 _ Sub.rfl E1 (by unfold OD den; rfl)⟩
    | _ => exact p1.elim
theorem de_if {c : Expr} {t : M Bool} (hc : PT X c (tT C W t)) (ha : PE X a (tE C W f)) (hb : PE X b (tE C W g)) : PE X (.IfExp c a b pos) (tE C W (eIf t f g)) := by
  refine PE.st (pe_ifExp hc ha hb) fun σ H Q q => ?_
  obtain ⟨Y, G, ρ, E, p⟩ := q
  refine seqT Post.lk E p fun G1 H1 ρ1 b s1 E1 p1 => ?_
  cases b with
  | true => exact ⟨Y, G1, ρ1, E1, p1⟩
  | false => exact ⟨Y, G1, ρ1, E1, p1⟩
/-! the same as tests -/
def tAnd' (t u : M Bool) : M Bool := fun ρ => (t ρ).bind fun b ρ1 => if b then u ρ1 else .ok false ρ1
def tOr' (t u : M Bool) : M Bool := fun ρ => (t ρ).bind fun b ρ1 => if b then .ok true ρ1 else u ρ1
def tNot' (t : M Bool) : M Bool := fun ρ => (t ρ).bind fun b ρ1 => .ok (!b) ρ1
structure PWd (X : Cx) (e : Expr) (C : Cn) (W : WX) (t : M Bool) : Prop where
  pw : ∃ tt, PW X e tt ∧ ∀ σ H Q, tT C W t σ H Q → tt σ H Q
theorem PWd.pt {t : M Bool} (h : PWd X e C W t) : PT X e (tT C W t) := by
  obtain ⟨tt, h1, h2⟩ := h
  exact PT.st h1.pt h2
variable {t u : M Bool}
theorem dw_and1 (ha : PT X a (tT C W t)) : PWd X (.BoolOp .And [a] pos) C W t := ⟨_, pw_and1 ha, fun _ _ _ q => q⟩
theorem dw_or1 (ha : PT X a (tT C W t)) : PWd X (.BoolOp .Or [a] pos) C W t := ⟨_, pw_or1 ha, fun _ _ _ q => q⟩
theorem dw_and (ha : PT X a (tT C W t)) (hb : PWd X (.BoolOp .And (b :: rest) pos) C W u) : PWd X (.BoolOp .And (a :: b :: rest) pos) C W (tAnd' t u) := by
  obtain ⟨tt, h1, h2⟩ := hb
  refine ⟨_, pw_and ha h1, fun σ H Q q => ?_⟩
  obtain ⟨Y, G, ρ, E, p⟩ := q
  refine seqT PostT.lk E p fun G1 H1 ρ1 b s1 E1 p1 => ?_
  cases b with
  | true => exact h2 _ _ _ ⟨Y, G1, ρ1, E1, p1⟩
  | false => exact p1 G1 H1 Sub.rfl E1
theorem dw_or (ha : PT X a (tT C W t)) (hb : PWd X (.BoolOp .Or (b :: rest) pos) C W u) : PWd X (.BoolOp .Or (a :: b :: rest) pos) C W (tOr' t u) := by
  obtain ⟨tt, h1, h2⟩ := hb
  refine ⟨_, pw_or ha h1, fun σ H Q q => ?_⟩
  obtain ⟨Y, G, ρ, E, p⟩ := q
  refine seqT PostT.lk E p fun G1 H1 ρ1 b s1 E1 p1 => ?_
  cases b with
  | false => exact h2 _ _ _ ⟨Y, G1, ρ1, E1, p1⟩
  | true => exact p1 G1 H1 Sub.rfl E1
theorem dt_not (ha : PT X a (tT C W t)) : PT X (.UnaryOp .Not a pos) (tT C W (tNot' t)) := by
  refine PT.st (pt_not ha) fun σ H Q q => ?_
  obtain ⟨Y, G, ρ, E, p⟩ := q
  refine seqT PostT.lk E p fun G1 H1 ρ1 b s1 E1 p1 => ?_
  exact p1 G1 H1 Sub.rfl E1
end

/-! ### freezing: a value that is kept elsewhere -/
def takeO (o : Opd) (ρ : DEnv) : Option (D × DEnv) := match o with
  | .val d => some (d, ρ)
  | .own d => some (d, ρ)
  | .slot i => match ρ[i]? with
    | some (some (_, d)) => some (d, ρ.set i (some (false, d)))
    | _ => none
def takeAll : List Opd → DEnv → Option (List D × DEnv)
  | [], ρ => some ([], ρ)
  | o :: os, ρ => match takeO o ρ with
    | some (d, ρ1) => match takeAll os ρ1 with
      | some (ds, ρ2) => some (d :: ds, ρ2)
      | none => none
    | none => none
section
variable {C : Cn} {Y : Gr} {G G' H H' : Hp} {σ : St} {ρ ρ' : DEnv} {v : V} {o : Opd}
theorem set_get {ρ : DEnv} {i j : Nat} {x y : Slot} (h : (ρ.set i x)[j]? = some y) : (j = i ∧ y = x) ∨ (j ≠ i ∧ ρ[j]? = some y) := by
  by_cases hj : j = i
  · subst hj
    by_cases hl : j < ρ.length
    · rw [List.getElem?_set_self hl] at h
      cases h
      exact .inl ⟨rfl, rfl⟩
    · rw [List.getElem?_eq_none (by simpa using hl)] at h
      cases h
  · rw [List.getElem?_set_ne (Ne.symm hj)] at h
    exact .inr ⟨hj, h⟩
/-- a slot that is not owned is written anew, the same value behind it -/
theorem ED.reslot (E : ED C Y G σ H ρ) {i : Nat} {d : D} {w : V} (hσ : σ[i]? = some (some w)) (hd : den C.b G d w) (hb : ∀ b' d', ρ[i]? = some (some (b', d')) → isCont d' = true → isCont d = true ∧ ∀ p, w = .ref p → ∃ o, G p = some o) : ED C Y G σ H (ρ.set i (some (false, d))) := by
  refine ⟨E.sub, fun j e h => ?_, fun j e h => ?_, fun j k e e' p hjk h1 h2 => ?_, by rw [List.length_set]; exact E.len, fun j p hB => ?_, E.old, E.fz, E.g0⟩
  · rcases set_get h with ⟨rfl, q⟩ | ⟨_, q⟩
    · cases q; exact ⟨w, hσ, hd⟩
    · exact E.frz j e q
  · rcases set_get h with ⟨rfl, q⟩ | ⟨_, q⟩
    · cases q
    · exact E.own j e q
  · rcases set_get h1 with ⟨rfl, q⟩ | ⟨_, q⟩
    · cases q
    · rcases set_get h2 with ⟨rfl, q'⟩ | ⟨_, q'⟩
      · cases q'
      · exact E.ap j k e e' p hjk q q'
  · obtain ⟨h1, hn, b', d', h2, hc, h3⟩ := E.bor j p hB
    by_cases hj : j = i
    · subst hj
      obtain ⟨e1, e2⟩ := hb b' d' h2 hc
      rw [hσ] at h1; cases h1
      exact ⟨hσ, hn, false, d, by rw [List.getElem?_set_self (List.getElem?_eq_some_iff.mp h2).1], e1, .inr (e2 _ rfl)⟩
    · exact ⟨h1, hn, b', d', by rw [List.getElem?_set_ne (Ne.symm hj)]; exact h2, hc, h3⟩
/-- an owned slot is frozen -/
theorem ED.frzSlot (E : ED C Y G σ H ρ) {i : Nat} {b : Bool} {d : D} (hr : ρ[i]? = some (some (b, d))) (hσ : σ[i]? = some (some v)) :
    ∃ G', Sub G G' ∧ ED C Y G' σ H (ρ.set i (some (false, d))) ∧ den C.b G' d v := by
  cases b with
  | false =>
    obtain ⟨w, h1, h2⟩ := E.frz i d hr
    rw [hσ] at h1; cases h1
    exact ⟨G, Sub.rfl, E.reslot hσ h2 (fun b' d' q hc => by
      rw [hr] at q; cases q
      refine ⟨hc, fun p e => ?_⟩
      subst e
      cases d <;> first | cases hc | skip
      · unfold den at h2; obtain ⟨a, vs, e, h2, _⟩ := h2; cases e; exact ⟨_, h2⟩
      · unfold den at h2; obtain ⟨a, vs, e, h2, _⟩ := h2; cases e; exact ⟨_, h2⟩), h2⟩
  | true =>
    obtain ⟨p, h1, gn, oa, hB⟩ := E.own i d hr
    rw [hσ] at h1; cases h1
    obtain ⟨u, hu⟩ := oa.some
    have sg : Sub G (upd G p u) := Sub.new gn
    have dn : den C.b (upd G p u) d (.ref p) := by
      cases d <;> simp only [ownAt] at oa
      · obtain ⟨vs, o1, o2⟩ := oa
        rw [hu] at o1; cases o1
        unfold den
        exact ⟨p, vs, rfl, upd_same, denL.mono sg _ _ o2⟩
      · obtain ⟨vs, o1, o2⟩ := oa
        rw [hu] at o1; cases o1
        unfold den
        exact ⟨p, vs, rfl, upd_same, denK.mono sg _ _ o2⟩
    refine ⟨upd G p u, sg, ⟨fun a w e => ?_, fun j e h => ?_, fun j e h => ?_, fun j k e e' q hjk h1 h2 => ?_, by rw [List.length_set]; exact E.len, fun j q hq => ?_, E.old, fun a w e => ?_, E.g0.trans sg⟩, dn⟩
    · by_cases hp : a = p
      · subst hp; rw [upd_same] at e; cases e; exact hu
      · rw [upd_ne hp] at e; exact E.sub a w e
    · rcases set_get h with ⟨rfl, q⟩ | ⟨_, q⟩
      · cases q; exact ⟨_, hσ, dn⟩
      · obtain ⟨w, w1, w2⟩ := E.frz j e q
        exact ⟨w, w1, den.mono sg _ _ w2⟩
    · rcases set_get h with ⟨rfl, q⟩ | ⟨hj, q⟩
      · cases q
      · obtain ⟨r, r1, r2, r3, r4⟩ := E.own j e q
        have hne : r ≠ p := fun z => E.ap j i e d p hj q hr (z ▸ r1) hσ
        exact ⟨r, r1, by rw [upd_ne hne]; exact r2, r3.mono sg rfl, r4⟩
    · rcases set_get h1 with ⟨rfl, q⟩ | ⟨_, q⟩
      · cases q
      · rcases set_get h2 with ⟨rfl, q'⟩ | ⟨_, q'⟩
        · cases q'
        · exact E.ap j k e e' _ hjk q q'
    · obtain ⟨h1, hn, b', d', h2, hc, h3⟩ := E.bor j q hq
      by_cases hj : j = i
      · subst hj
        rw [hr] at h2; cases h2
        rw [hσ] at h1; cases h1
        exact ⟨hσ, hn, false, d, by rw [List.getElem?_set_self (List.getElem?_eq_some_iff.mp hr).1], hc, .inr ⟨u, upd_same⟩⟩
      · refine ⟨h1, hn, b', d', by rw [List.getElem?_set_ne (Ne.symm hj)]; exact h2, hc, ?_⟩
        rcases h3 with h3 | ⟨w, h3⟩
        · exact .inl h3
        · exact .inr ⟨w, sg _ _ h3⟩
    · by_cases hp : a = p
      · subst hp
        rcases hB with hB | hB
        · exact .inl hB
        · exact .inr (.inr ⟨i, hB⟩)
      · rw [upd_ne hp] at e; exact E.fz a w e
theorem takeO_ok (E : ED C Y G σ H ρ) (od : OD C Y G σ H ρ o v) {d : D} (h : takeO o ρ = some (d, ρ')) : ∃ G', Sub G G' ∧ ED C Y G' σ H ρ' ∧ den C.b G' d v := by
  cases o with
  | val d' => cases h; exact ⟨G, Sub.rfl, E, od⟩
  | own d' =>
    cases h
    obtain ⟨p, rfl, gn, oa, h0, nr⟩ := od
    obtain ⟨u, hu, sg, E2, dn⟩ := E.keepO gn oa h0 nr
    exact ⟨_, sg, E2, dn⟩
  | slot i =>
    unfold takeO at h
    dsimp only at h
    split at h
    · rename_i b d' hr
      cases h
      exact E.frzSlot hr od
    · cases h
def allPl : List Opd → Prop
  | [] => True
  | o :: os => Pl o ∧ allPl os
theorem allOD.mv (s : Sub G G') : ∀ {os : List Opd} {vs : List V}, allPl os → allOD C Y G σ H ρ os vs → allOD C Y G' σ H' ρ' os vs
  | [], vs, _, h => h
  | o :: os, vs, pl, h => by
    obtain ⟨v, r, rfl, h1, h2⟩ := h
    exact ⟨v, r, rfl, h1.mv pl.1 s, allOD.mv s pl.2 h2⟩
theorem takeAll_ok : ∀ {os : List Opd} {vs : List V} {G : Hp} {ρ ρ' : DEnv} {ds : List D}, ED C Y G σ H ρ → allPl os → allOD C Y G σ H ρ os vs → takeAll os ρ = some (ds, ρ') → ∃ G', Sub G G' ∧ ED C Y G' σ H ρ' ∧ denL C.b G' ds vs
  | [], vs, G, ρ, ρ', ds, E, _, od, h => by
    cases h
    exact ⟨G, Sub.rfl, E, by unfold denL; exact od⟩
  | o :: os, vs, G, ρ, ρ', ds, E, pl, od, h => by
    obtain ⟨v, r, rfl, h1, h2⟩ := od
    unfold takeAll at h
    cases e1 : takeO o ρ with
    | none => rw [e1] at h; cases h
    | some p =>
      obtain ⟨d, ρ1⟩ := p
      rw [e1] at h
      dsimp only at h
      cases e2 : takeAll os ρ1 with
      | none => rw [e2] at h; cases h
      | some p2 =>
        obtain ⟨ds', ρ2⟩ := p2
        rw [e2] at h
        cases h
        obtain ⟨G1, s1, E1, d1⟩ := takeO_ok E h1 e1
        obtain ⟨G2, s2, E2, d2⟩ := takeAll_ok E1 pl.2 (h2.mv s1 pl.2) e2
        refine ⟨G2, s1.trans s2, E2, ?_⟩
        unfold denL
        exact ⟨v, r, rfl, den.mono s2 _ _ d1, d2⟩
end

/-! ### argument lists, displays -/
def eA : List (M Opd) → M (List Opd)
  | [] => fun ρ => .ok [] ρ
  | f :: fs => fun ρ => (nrm f ρ).bind fun o ρ1 => (eA fs ρ1).bind fun os ρ2 => .ok (o :: os) ρ2
def eTup (fs : List (M Opd)) : M Opd := fun ρ => (eA fs ρ).bind fun os ρ1 => match takeAll os ρ1 with
  | some (ds, ρ2) => if ds.length ≤ 16777216 then .ok (.val (.tup ds)) ρ2 else .bad
  | none => .bad
def eLst (fs : List (M Opd)) : M Opd := fun ρ => (eA fs ρ).bind fun os ρ1 => match takeAll os ρ1 with
  | some (ds, ρ2) => if ds.length ≤ 16777216 then .ok (.own (.lst ds)) ρ2 else .bad
  | none => .bad
theorem eA_pl : ∀ {fs : List (M Opd)} {ρ ρ' : DEnv} {os : List Opd}, eA fs ρ = .ok os ρ' → allPl os
  | [], ρ, ρ', os, h => by cases h; exact trivial
  | f :: fs, ρ, ρ', os, h => by
    unfold eA nrm at h
    cases e1 : f ρ with
    | bad => rw [e1] at h; cases h
    | exc c d ρ1 => rw [e1] at h; cases h
    | ok o ρ1 =>
      rw [e1] at h
      simp only [R.bind_ok] at h
      cases e2 : eA fs ρ1 with
      | bad => rw [e2] at h; cases h
      | exc c d ρ1 => rw [e2] at h; cases h
      | ok os' ρ2 =>
        rw [e2] at h
        cases h
        exact ⟨nrmO_pl _, eA_pl e2⟩
/-- arguments, then what follows; nothing among them is fresh and owned -/
theorem seqAp {C : Cn} {W : WX} {β : Type} {Y : Gr} {G : Hp} {σ : St} {H : Hp} {ρ : DEnv} {P : Hp → R β → Prop} (L : Lk C W Y σ P) {fs : List (M Opd)} {k : List Opd → DEnv → R β} (E : ED C Y G σ H ρ) (p : P G ((eA fs ρ).bind k)) {S : List V → Hp → Prop}
    (h : ∀ G' H1 ρ1 os vs, Sub G G' → allPl os → ED C Y G' σ H1 ρ1 → allOD C Y G' σ H1 ρ1 os vs → P G' (k os ρ1) → S vs H1) : tA C W (eA fs) σ H S := by
  refine ⟨Y, G, ρ, E, ?_⟩
  cases hf : eA fs ρ with
  | bad => rw [hf] at p; exact (L.bad p).elim
  | exc c d ρ1 => rw [hf] at p; exact L.exc p
  | ok o ρ1 =>
    rw [hf] at p
    intro G' H' v s E' od
    exact h G' H' ρ1 o v s (eA_pl hf) E' od (L.mono s p)
section
variable {X : Cx} {C : Cn} {W : WX} {e : Expr} {es : List Expr} {f : M Opd} {fs : List (M Opd)} {pos : Pos}
theorem da_nil : PA X [] (tA C W (eA [])) := PA.st pa_nil fun σ H Q q => by
  obtain ⟨Y, G, ρ, E, p⟩ := q
  exact p G H [] Sub.rfl E rfl
theorem da_cons (ha : PE X e (tE C W f)) (hr : PA X es (tA C W (eA fs))) (hs : starEach (e :: es) X.env = (false, eval e X.env) :: starEach es X.env := by rfl) : PA X (e :: es) (tA C W (eA (f :: fs))) :=
  PA.st (pa_cons ha hr hs) fun σ H Q q => by
    obtain ⟨Y, G, ρ, E, p⟩ := q
    refine seq1 (C := C) PostA.lk E p fun G1 H1 ρ1 o1 v1 s1 pl1 E1 od1 p1 => ?_
    refine seqA PostA.lk E1 p1 fun G2 H2 ρ2 os vs s2 E2 ods p2 => ?_
    exact p2 G2 H2 _ Sub.rfl E2 ⟨v1, vs, rfl, od1.mv pl1 s2, ods⟩
theorem sz_eq : sizeLine = 16777216 := sizeLine_eq
theorem de_tup {x1} (h : PA X es (tA C W (eA fs))) : PE X (.Tuple es x1 pos) (tE C W (eTup fs)) := by
  refine PE.st (pe_tup h) fun σ H Q q => ?_
  obtain ⟨Y, G, ρ, E, p⟩ := q
  refine seqAp Post.lk E p fun G1 H1 ρ1 os vs s1 pl E1 ods p1 => ?_
  cases e1 : takeAll os ρ1 with
  | none => rw [e1] at p1; exact p1.elim
  | some z =>
    obtain ⟨ds, ρ2⟩ := z
    rw [e1] at p1
    dsimp only at p1
    by_cases hz : ds.length ≤ 16777216
    · rw [if_pos hz] at p1
      obtain ⟨G2, s2, E2, d2⟩ := takeAll_ok E1 pl ods e1
      have hl := d2.len
      refine ⟨by rw [sz_eq]; omega, fun q hq => ?_⟩
      have E3 := E2.froze (o := .tup vs) hq
      have sg : Sub G2 (upd G2 q (.tup vs)) := Sub.new (E2.gn hq)
      refine p1 _ _ _ (s2.trans sg) E3 ?_
      unfold OD den
      exact ⟨q, vs, rfl, SqT.of upd_same, denL.mono sg _ _ d2⟩
    · rw [if_neg hz] at p1; exact p1.elim
/-- a new list, owned -/
theorem OD.fresh {Y : Gr} {G H : Hp} {σ : St} {ρ : DEnv} {q : Addr} {o : HO} {d : D} (E : ED C Y G σ H ρ) (hq : H q = none) (ho : ownAt C.b G (upd H q o) q d) : ED C Y G σ (upd H q o) ρ ∧ OD C Y G σ (upd H q o) ρ (.own d) (.ref q) := by
  refine ⟨E.laid hq, q, rfl, E.gn hq, ho, E.h0 hq, fun i e h1 h2 => ?_⟩
  obtain ⟨r, r1, _, r3, _⟩ := E.own i e h1
  rw [h2] at r1; cases r1
  obtain ⟨u, hu⟩ := r3.some
  rw [hq] at hu; cases hu
theorem de_lst (h : PA X es (tA C W (eA fs))) : PE X (.List es pos) (tE C W (eLst fs)) := by
  refine PE.st (pe_lst h) fun σ H Q q => ?_
  obtain ⟨Y, G, ρ, E, p⟩ := q
  refine seqAp Post.lk E p fun G1 H1 ρ1 os vs s1 pl E1 ods p1 => ?_
  cases e1 : takeAll os ρ1 with
  | none => rw [e1] at p1; exact p1.elim
  | some z =>
    obtain ⟨ds, ρ2⟩ := z
    rw [e1] at p1
    dsimp only at p1
    by_cases hz : ds.length ≤ 16777216
    · rw [if_pos hz] at p1
      obtain ⟨G2, s2, E2, d2⟩ := takeAll_ok E1 pl ods e1
      have hl := d2.len
      refine ⟨by rw [sz_eq]; omega, fun q hq => ?_⟩
      obtain ⟨E3, od⟩ := OD.fresh (d := .lst ds) E2 hq (o := .lst vs) ⟨vs, upd_same, d2⟩
      exact p1 _ _ _ s2 E3 od
    · rw [if_neg hz] at p1; exact p1.elim
end
end DL

set_option Elab.async false
set_option linter.all false
set_option maxRecDepth 100000
/-! The data layer: the operators. -/
namespace DL
open PySem PySem.Spec L2
open PyProof.Rows hiding St

section
variable {C : Cn} {Y : Gr} {G H : Hp} {σ : St} {ρ : DEnv} {Q : VK} {d : D} {o : Opd}
/-- a plain value as the result -/
theorem Aft.val {v : V} (E : ED C Y G σ H ρ) (a : Aft C Y G σ ρ (.val d) Q) (h : den C.b G d v) : Q v H := a G H v Sub.rfl E h
theorem Aft.int {i : Int} (E : ED C Y G σ H ρ) (a : Aft C Y G σ ρ (.val (.int i)) Q) : Q (.int i) H := a.val E (by unfold den; rfl)
theorem Aft.bl {i : Bool} (E : ED C Y G σ H ρ) (a : Aft C Y G σ ρ (.val (.bl i)) Q) : Q (.bl i) H := a.val E (by unfold den; rfl)
theorem Aft.str {i : Str} (E : ED C Y G σ H ρ) (a : Aft C Y G σ ρ (.val (.str i)) Q) : Q (.str i) H := a.val E (by unfold den; rfl)
theorem Aft.lst {xs : List D} {vs : List V} {p : Addr} (E : ED C Y G σ H ρ) (a : Aft C Y G σ ρ (.own (.lst xs)) Q) (hp : H p = none) (h : denL C.b G xs vs) : Q (.ref p) (upd H p (.lst vs)) := by
  obtain ⟨E3, od⟩ := OD.fresh (d := .lst xs) E hp (o := .lst vs) ⟨vs, upd_same, h⟩
  exact a _ _ _ Sub.rfl E3 od
theorem Aft.tup {xs : List D} {vs : List V} {p : Addr} (E : ED C Y G σ H ρ) (a : Aft C Y G σ ρ (.val (.tup xs)) Q) (hp : H p = none) (h : denL C.b G xs vs) : Q (.ref p) (upd H p (.tup vs)) := by
  have E3 := E.froze (o := .tup vs) hp
  have sg : Sub G (upd G p (.tup vs)) := Sub.new (E.gn hp)
  refine a _ _ _ sg E3 ?_
  unfold OD den
  exact ⟨p, vs, rfl, SqT.of upd_same, denL.mono sg _ _ h⟩
end

/-! ### + - * // % ** - -/
def addF : D → D → Option Opd
  | .int i, .int j => some (.val (.int (i + j)))
  | .str a, .str b => if a.length + b.length ≤ 16777216 then some (.val (.str (a ++ b))) else none
  | .lst a, .lst b => if a.length + b.length ≤ 16777216 then some (.own (.lst (a ++ b))) else none
  | .tup (x :: a), .tup b => if (x :: a).length + b.length ≤ 16777216 then some (.val (.tup (x :: a ++ b))) else none
  | _, _ => none
def subF : D → D → Option Opd
  | .int i, .int j => some (.val (.int (i - j)))
  | _, _ => none
def mulF : D → D → Option Opd
  | .int i, .int j => if i.natAbs.log2 + j.natAbs.log2 < 1000000 then some (.val (.int (i * j))) else none
  | _, _ => none
def divF : D → D → Option Opd
  | .int i, .int j => if 0 < j ∧ j.natAbs.log2 < 9000 then some (.val (.int (i / j))) else none
  | _, _ => none
def modF : D → D → Option Opd
  | .int i, .int j => if 0 < j then some (.val (.int (i % j))) else none
  | _, _ => none
def powF : D → D → Option Opd
  | .int i, .int j => if 0 ≤ j ∧ (i.natAbs.log2 + 1) * j.toNat ≤ 134217728 then some (.val (.int (i ^ j.toNat))) else none
  | _, _ => none
def negF : D → Option Opd
  | .int i => some (.val (.int (-i)))
  | _ => none
def rAddAll (K : PySem.W.Frag) : R2 := fun x y H Q => rI0 (fun i j => .int (i + j)) x y H Q ∨ (∃ i j, x = .str i ∧ y = .str j ∧ i.length + j.length ≤ sizeLine ∧ Q (.str (i ++ j)) H) ∨ rCat x y H Q ∨ rCatT K x y H Q
theorem op_addAll {X : Cx} : OpR X (binaryOp .Add) (rAddAll X.K) := OpR.or op_add (OpR.or op_add_str (OpR.or op_cat op_catT))
theorem addD {C : Cn} {K : PySem.W.Frag} (hK : C.b.K = K) : OpD C addF (rAddAll K) := by
  intro Y G σ H ρ Q x y dx dy o E hx hy hf af
  unfold addF at hf
  split at hf
  · cases hf
    exact .inl ⟨_, _, hx.int, hy.int, af.int E⟩
  · split at hf
    · rename_i hz
      cases hf
      exact .inr (.inl ⟨_, _, hx.str, hy.str, by rw [sz_eq]; exact hz, af.str E⟩)
    · cases hf
  · split at hf
    · rename_i hz
      cases hf
      obtain ⟨a, vs, rfl, h1, h2⟩ := hx.lst E.sub
      obtain ⟨b, ws, rfl, h3, h4⟩ := hy.lst E.sub
      have l1 := h2.len
      have l2 := h4.len
      exact .inr (.inr (.inl ⟨a, b, vs, ws, rfl, rfl, h1, h3, by rw [sz_eq]; omega, fun p hp => af.lst E hp (denL_iff.mpr (pd_app (denL_iff.mp h2) (denL_iff.mp h4)))⟩))
    · cases hf
  · split at hf
    · rename_i z zs ws hz
      cases hf
      obtain ⟨a, vs, rfl, h1, h2⟩ := hx.tup hK E.sub
      obtain ⟨b, us, rfl, h3, h4⟩ := hy.tup hK E.sub
      have l1 := h2.len
      have l2 := h4.len
      have ap := denL_iff.mpr (pd_app (denL_iff.mp h2) (denL_iff.mp h4))
      refine .inr (.inr (.inr ⟨a, b, vs, us, rfl, rfl, h1, h3, fun z => by rw [z] at l1; simp at l1, by rw [sz_eq]; omega, fun z => ?_, fun _ p hp => af.tup E hp ap⟩))
      subst z
      rw [List.append_nil] at ap
      rcases hx with hx | ⟨p, _, hx⟩
      · refine af.val E ?_
        unfold den at hx ⊢
        obtain ⟨a', vs', e1, e2, e3⟩ := hx
        cases ws with
        | nil => rw [List.append_nil]; exact ⟨a', vs', e1, e2, e3⟩
        | cons w ws => simp at l2
      · exact hx.elim
    · cases hf
  · cases hf
theorem subD {C : Cn} : OpD C subF (rI0 fun i j => .int (i - j)) := by
  intro Y G σ H ρ Q x y dx dy o E hx hy hf af
  unfold subF at hf
  split at hf
  · cases hf
    exact ⟨_, _, hx.int, hy.int, af.int E⟩
  · cases hf
theorem mulD {C : Cn} : OpD C mulF (rI CMulW fun i j => .int (i * j)) := by
  intro Y G σ H ρ Q x y dx dy o E hx hy hf af
  unfold mulF at hf
  split at hf
  · split at hf
    · rename_i hz
      cases hf
      exact ⟨_, _, hx.int, hy.int, hz, af.int E⟩
    · cases hf
  · cases hf
theorem divD {C : Cn} : OpD C divF (rI CDivW fun i j => .int (i / j)) := by
  intro Y G σ H ρ Q x y dx dy o E hx hy hf af
  unfold divF at hf
  split at hf
  · split at hf
    · rename_i hz
      cases hf
      exact ⟨_, _, hx.int, hy.int, hz, af.int E⟩
    · cases hf
  · cases hf
theorem modD {C : Cn} : OpD C modF (rI (fun _ j => 0 < j) fun i j => .int (i % j)) := by
  intro Y G σ H ρ Q x y dx dy o E hx hy hf af
  unfold modF at hf
  split at hf
  · split at hf
    · rename_i hz
      cases hf
      exact ⟨_, _, hx.int, hy.int, hz, af.int E⟩
    · cases hf
  · cases hf
theorem op_powB {X : Cx} : OpR X (binaryOp .Pow) (rI (fun i j => 0 ≤ j ∧ (i.natAbs.log2 + 1) * j.toNat ≤ 134217728) fun i j => .int (i ^ j.toNat)) := by
  intro pins s σ H x y v u Q I rx ry h
  obtain ⟨i, j, rfl, rfl, ⟨h0, hz⟩, q⟩ := h
  obtain ⟨t, rfl⟩ := rx
  obtain ⟨t', rfl⟩ := ry
  refine PyProof.Rows.pow_int h0 ?_ ⟨.int _, H, I.tok _, ⟨_, rfl⟩, q⟩
  have b : Builtin.Int.intBits i ≤ i.natAbs.log2 + 1 := by
    unfold Builtin.Int.intBits
    split <;> omega
  have e : ((j.toNat : Nat) : Int) = j := Int.toNat_of_nonneg h0
  have m : Builtin.Int.intBits i * j.toNat ≤ (i.natAbs.log2 + 1) * j.toNat := Nat.mul_le_mul_right _ b
  rw [← e]
  have : ((Builtin.Int.intBits i * j.toNat : Nat) : Int) ≤ 134217728 := by omega
  rw [Int.natCast_mul] at this
  simpa using this
theorem powD {C : Cn} : OpD C powF (rI (fun i j => 0 ≤ j ∧ (i.natAbs.log2 + 1) * j.toNat ≤ 134217728) fun i j => .int (i ^ j.toNat)) := by
  intro Y G σ H ρ Q x y dx dy o E hx hy hf af
  unfold powF at hf
  split at hf
  · split at hf
    · rename_i hz
      cases hf
      exact ⟨_, _, hx.int, hy.int, hz, af.int E⟩
    · cases hf
  · cases hf
theorem negD {C : Cn} : UnD C negF (rU fun i => .int (-i)) := by
  intro Y G σ H ρ Q x dx o E hx hf af
  unfold negF at hf
  split at hf
  · cases hf
    exact ⟨_, hx.int, af.int E⟩
  · cases hf

/-! ### comparisons -/
def ltF : D → D → Option Opd
  | .int i, .int j => some (.val (.bl (decide (i < j))))
  | _, _ => none
def leF : D → D → Option Opd
  | .int i, .int j => some (.val (.bl (decide (i ≤ j))))
  | _, _ => none
def gtF : D → D → Option Opd
  | .int i, .int j => some (.val (.bl (decide (j < i))))
  | _, _ => none
def geF : D → D → Option Opd
  | .int i, .int j => some (.val (.bl (decide (j ≤ i))))
  | _, _ => none
theorem cmpI {C : Cn} {F : D → D → Option Opd} {p : Int → Int → Bool} (hF : ∀ dx dy o, F dx dy = some o → ∃ i j, dx = .int i ∧ dy = .int j ∧ o = .val (.bl (p i j))) : OpD C F (rI0 fun i j => .bl (p i j)) := by
  intro Y G σ H ρ Q x y dx dy o E hx hy hf af
  obtain ⟨i, j, rfl, rfl, rfl⟩ := hF _ _ _ hf
  exact ⟨_, _, hx.int, hy.int, af.bl E⟩
theorem ltD {C : Cn} : OpD C ltF (rI0 fun i j => .bl (decide (i < j))) := cmpI fun dx dy o h => by
  unfold ltF at h
  split at h
  · cases h; exact ⟨_, _, rfl, rfl, rfl⟩
  · cases h
theorem leD {C : Cn} : OpD C leF (rI0 fun i j => .bl (decide (i ≤ j))) := cmpI fun dx dy o h => by
  unfold leF at h
  split at h
  · cases h; exact ⟨_, _, rfl, rfl, rfl⟩
  · cases h
theorem gtD {C : Cn} : OpD C gtF (rI0 fun i j => .bl (decide (j < i))) := cmpI fun dx dy o h => by
  unfold gtF at h
  split at h
  · cases h; exact ⟨_, _, rfl, rfl, rfl⟩
  · cases h
theorem geD {C : Cn} : OpD C geF (rI0 fun i j => .bl (decide (j ≤ i))) := cmpI fun dx dy o h => by
  unfold geF at h
  split at h
  · cases h; exact ⟨_, _, rfl, rfl, rfl⟩
  · cases h

/-! ### == of data -/
mutual
def toPy : D → Option PyData
  | .non => some .none
  | .bl b => some (.bool b)
  | .int i => some (.int i)
  | .str s => some (.str s)
  | .lst xs => (toPyL xs).map .list
  | .tup xs => (toPyL xs).map .tuple
  | .dK kvs => (toPyK kvs).map .dict
  | .exc _ _ => none
  | .scr _ => none
def toPyL : List D → Option (List PyData)
  | [] => some []
  | x :: xs => match toPy x, toPyL xs with
    | some p, some ps => some (p :: ps)
    | _, _ => none
def toPyK : List (Key × D) → Option (List (PyData × PyData))
  | [] => some []
  | (k, x) :: xs => match toPy x, toPyK xs with
    | some p, some ps => some (((match k with | .inl i => .int i | .inr s => .str s), p) :: ps)
    | _, _ => none
end
def eqB (d e : D) : Option Bool := match toPy d, toPy e with
  | some p, some q => if SeqAt.shaped p && SeqAt.shaped q then some (PyData.eqv p q) else none
  | _, _ => none
def eqF (d e : D) : Option Opd := (eqB d e).map fun b => .val (.bl b)
def neF (d e : D) : Option Opd := (eqB d e).map fun b => .val (.bl (!b))
section
variable {C : Cn} {G H : Hp} {K : PySem.W.Frag}
mutual
theorem dp_of (hK : C.b.K = K) (s : Sub G H) : ∀ (d : D) (v : V) (p : PyData), den C.b G d v → toPy d = some p → p.hasDict = false → Dp K H v p
  | .non, v, p, h, e, _ => by
    unfold den at h; unfold toPy at e; cases e; subst h; exact .non
  | .bl b, v, p, h, e, _ => by
    unfold den at h; unfold toPy at e; cases e; subst h; exact .bl b
  | .int b, v, p, h, e, _ => by
    unfold den at h; unfold toPy at e; cases e; subst h; exact .int b
  | .str b, v, p, h, e, _ => by
    unfold den at h; unfold toPy at e; cases e; subst h; exact .str b
  | .lst xs, v, p, h, e, hd => by
    unfold den at h
    unfold toPy at e
    obtain ⟨a, vs, rfl, h1, h2⟩ := h
    cases e1 : toPyL xs with
    | none => rw [e1] at e; cases e
    | some ps =>
      rw [e1] at e
      cases e
      exact .lst (SqL.of (s _ _ h1)) (dpL_of hK s xs vs ps h2 e1 hd)
  | .tup xs, v, p, h, e, hd => by
    unfold den at h
    unfold toPy at e
    obtain ⟨a, vs, rfl, h1, h2⟩ := h
    cases e1 : toPyL xs with
    | none => rw [e1] at e; cases e
    | some ps =>
      rw [e1] at e
      cases e
      exact .tup (by rw [← hK]; exact s.sqT h1) (dpL_of hK s xs vs ps h2 e1 hd)
  | .dK kvs, v, p, h, e, hd => by
    unfold toPy at e
    cases e1 : toPyK kvs with
    | none => rw [e1] at e; cases e
    | some ps => rw [e1] at e; cases e; cases hd
  | .exc _ _, v, p, h, e, _ => by unfold toPy at e; cases e
  | .scr _, v, p, h, e, _ => by unfold toPy at e; cases e
theorem dpL_of (hK : C.b.K = K) (s : Sub G H) : ∀ (d : List D) (v : List V) (p : List PyData), denL C.b G d v → toPyL d = some p → PyData.hasDictAll p = false → DpAll K H v p
  | [], v, p, h, e, _ => by
    unfold denL at h; unfold toPyL at e; cases e; subst h; exact .nil
  | d :: ds, v, p, h, e, hd => by
    unfold denL at h
    unfold toPyL at e
    obtain ⟨w, r, rfl, h1, h2⟩ := h
    cases e1 : toPy d with
    | none => rw [e1] at e; cases e
    | some q =>
      cases e2 : toPyL ds with
      | none => rw [e1, e2] at e; cases e
      | some qs =>
        rw [e1, e2] at e
        cases e
        unfold PyData.hasDictAll at hd
        obtain ⟨n1, n2⟩ := Bool.or_eq_false_iff.mp hd
        exact .cons (dp_of hK s d w q h1 e1 n1) (dpL_of hK s ds r qs h2 e2 n2)
end
theorem dv_dp (hK : C.b.K = K) (s : Sub G H) {d : D} {v : V} {p : PyData} (h : DV C.b G H d v) (e : toPy d = some p) (hd : p.hasDict = false) : Dp K H v p := by
  rcases h with h | ⟨q, rfl, h⟩
  · exact dp_of hK s d v p h e hd
  · cases d <;> simp only [ownAt] at h
    · obtain ⟨vs, h1, h2⟩ := h
      unfold toPy at e
      rename_i xs
      cases e1 : toPyL xs with
      | none => rw [e1] at e; cases e
      | some ps =>
        rw [e1] at e
        cases e
        exact .lst (SqL.of h1) (dpL_of hK s xs vs ps h2 e1 hd)
    · unfold toPy at e
      rename_i xs
      cases e1 : toPyK xs with
      | none => rw [e1] at e; cases e
      | some ps => rw [e1] at e; cases e; cases hd
theorem noDict_shaped {p : PyData} (h : SeqAt.shaped p = true) : p.hasDict = false := PyData.hasDict_of_canLay p (SeqAt.canLay_of_shaped h)
theorem eqB_some {d e : D} {b : Bool} (h : eqB d e = some b) : ∃ p q, toPy d = some p ∧ toPy e = some q ∧ SeqAt.shaped p = true ∧ SeqAt.shaped q = true ∧ b = PyData.eqv p q := by
  unfold eqB at h
  split at h
  · rename_i p q h1 h2
    split at h
    · rename_i hs
      cases h
      obtain ⟨s1, s2⟩ := Bool.and_eq_true_iff.mp hs
      exact ⟨p, q, h1, h2, s1, s2, rfl⟩
    · cases h
  · cases h
theorem eqD (hK : C.b.K = K) : OpD C eqF (rEqD K) := by
  intro Y G σ H ρ Q x y dx dy o E hx hy hf af
  unfold eqF at hf
  cases hb : eqB dx dy with
  | none => rw [hb] at hf; cases hf
  | some b =>
    rw [hb] at hf
    cases hf
    obtain ⟨p, q, h1, h2, s1, s2, rfl⟩ := eqB_some hb
    exact ⟨p, q, dv_dp hK E.sub hx h1 (noDict_shaped s1), dv_dp hK E.sub hy h2 (noDict_shaped s2), s1, s2, af.bl E⟩
theorem neD (hK : C.b.K = K) : OpD C neF (rNeD K) := by
  intro Y G σ H ρ Q x y dx dy o E hx hy hf af
  unfold neF at hf
  cases hb : eqB dx dy with
  | none => rw [hb] at hf; cases hf
  | some b =>
    rw [hb] at hf
    cases hf
    obtain ⟨p, q, h1, h2, s1, s2, rfl⟩ := eqB_some hb
    exact ⟨p, q, dv_dp hK E.sub hx h1 (noDict_shaped s1), dv_dp hK E.sub hy h2 (noDict_shaped s2), s1, s2, af.bl E⟩
end

/-! ### is None -/
def isNb : D → Bool
  | .non => true
  | _ => false
def isNF : D → Option Opd := fun d => some (.val (.bl (isNb d)))
def notNF : D → Option Opd := fun d => some (.val (.bl (!isNb d)))
theorem dv_non {C : Cn} {G H : Hp} {d : D} {v : V} (h : DV C.b G H d v) : decide (v = .non) = isNb d := by
  rcases h with h | ⟨p, rfl, h⟩
  · cases d <;> unfold den at h
    case non => subst h; rfl
    case bl => subst h; rfl
    case int => subst h; rfl
    case str => subst h; rfl
    case lst => obtain ⟨a, vs, rfl, _⟩ := h; rfl
    case tup => obtain ⟨a, vs, rfl, _⟩ := h; rfl
    case dK => obtain ⟨a, vs, rfl, _⟩ := h; rfl
    case exc => obtain ⟨a, dx, T, u, rfl, _⟩ := h; rfl
    case scr => obtain ⟨a, rfl, _⟩ := h; rfl
  · cases d <;> simp only [ownAt] at h <;> rfl
section
variable {X : Cx} {C : Cn} {W : WX} {a : Expr} {f : M Opd} {pos : Pos}
theorem de_isN {j pos'} (ha : PE X a (tE C W f)) : PE X (.Compare a [.Is] [.Constant .none j pos'] pos) (tE C W (e1 f isNF)) := by
  refine PE.st (pe_cmp (pc_isN ha)) fun σ H Q q => ?_
  obtain ⟨Y, G, ρ, E, p⟩ := q
  refine seq1 Post.lk E p fun G1 H1 ρ1 o1 v1 s1 pl1 E1 od1 p1 => ?_
  unfold fin1 at p1
  cases l : look o1 ρ1 with
  | none => rw [l] at p1; exact p1.elim
  | some d =>
    rw [l] at p1
    rw [dv_non (look_ok E1 od1 l)]
    exact p1 G1 H1 _ Sub.rfl E1 (by unfold OD den; rfl)
theorem de_notN {j pos'} (ha : PE X a (tE C W f)) : PE X (.Compare a [.IsNot] [.Constant .none j pos'] pos) (tE C W (e1 f notNF)) := by
  refine PE.st (pe_cmp (pc_notN ha)) fun σ H Q q => ?_
  obtain ⟨Y, G, ρ, E, p⟩ := q
  refine seq1 Post.lk E p fun G1 H1 ρ1 o1 v1 s1 pl1 E1 od1 p1 => ?_
  unfold fin1 at p1
  cases l : look o1 ρ1 with
  | none => rw [l] at p1; exact p1.elim
  | some d =>
    rw [l] at p1
    rw [dv_non (look_ok E1 od1 l)]
    exact p1 G1 H1 _ Sub.rfl E1 (by unfold OD den; rfl)
theorem dt_isN {j pos'} (ha : PE X a (tE C W f)) : PT X (.Compare a [.Is] [.Constant .none j pos'] pos) (tT C W (tV (e1 f isNF))) := by
  refine PT.st (pt_cmp (pc_isN ha)) fun σ H Q h => ?_
  obtain ⟨Y, G, ρ, E, p⟩ := tB_of h
  refine seq1 Post.lk E p fun G1 H1 ρ1 o1 v1 s1 pl1 E1 od1 p1 => ?_
  unfold fin1 at p1
  cases l : look o1 ρ1 with
  | none => rw [l] at p1; exact p1.elim
  | some d =>
    rw [l] at p1
    rw [dv_non (look_ok E1 od1 l)]
    exact p1 G1 H1 _ Sub.rfl E1 (by unfold OD den; rfl)
theorem dt_notN {j pos'} (ha : PE X a (tE C W f)) : PT X (.Compare a [.IsNot] [.Constant .none j pos'] pos) (tT C W (tV (e1 f notNF))) := by
  refine PT.st (pt_cmp (pc_notN ha)) fun σ H Q h => ?_
  obtain ⟨Y, G, ρ, E, p⟩ := tB_of h
  refine seq1 Post.lk E p fun G1 H1 ρ1 o1 v1 s1 pl1 E1 od1 p1 => ?_
  unfold fin1 at p1
  cases l : look o1 ρ1 with
  | none => rw [l] at p1; exact p1.elim
  | some d =>
    rw [l] at p1
    rw [dv_non (look_ok E1 od1 l)]
    exact p1 G1 H1 _ Sub.rfl E1 (by unfold OD den; rfl)
end

/-! ### items -/
def ixF : D → D → Option Opd
  | .lst xs, .int i => (atI xs i).map .val
  | .tup xs, .int i => (atI xs i).map .val
  | .scr xs, .int i => (atI xs i).map fun n => .val (.int n)
  | .str z, .int i => if z.length ≤ 16777216 then (atI z.cps.toList i).map fun c => .val (.str ⟨#[c]⟩) else none
  | _, _ => none
theorem atI_pd {α β : Type} {F : α → β → Prop} {xs : List α} {ys : List β} {i : Int} {x : α} (p : Paired F xs ys) (h : atI xs i = some x) : ∃ y, atI ys i = some y ∧ F x y := by
  unfold atI at h ⊢
  rw [← p.length]
  cases e : ixN xs.length i with
  | none => rw [e] at h; cases h
  | some j =>
    rw [e] at h
    exact pd_get (i := j) p h
theorem ixD {C : Cn} {K : PySem.W.Frag} (hK : C.b.K = K) : OpD C ixF (rIx K) := by
  intro Y G σ H ρ Q x y dx dy o E hx hy hf af
  unfold ixF at hf
  split at hf
  · rename_i xs i
    cases e : atI xs i with
    | none => rw [e] at hf; cases hf
    | some d =>
      rw [e] at hf; cases hf
      obtain ⟨a, vs, rfl, h1, h2⟩ := hx.lst E.sub
      obtain ⟨w, w1, w2⟩ := atI_pd (denL_iff.mp h2) e
      exact .inl ⟨a, vs, i, w, rfl, hy.int, SqL.of h1, w1, af.val E w2⟩
  · rename_i xs i
    cases e : atI xs i with
    | none => rw [e] at hf; cases hf
    | some d =>
      rw [e] at hf; cases hf
      obtain ⟨a, vs, rfl, h1, h2⟩ := hx.tup hK E.sub
      obtain ⟨w, w1, w2⟩ := atI_pd (denL_iff.mp h2) e
      exact .inr (.inl ⟨a, vs, i, w, rfl, hy.int, h1, w1, af.val E w2⟩)
  · rename_i xs i
    cases e : atI xs i with
    | none => rw [e] at hf; cases hf
    | some d =>
      rw [e] at hf; cases hf
      obtain ⟨a, rfl, h1⟩ := hx.scr hK E.sub
      have p : Paired (fun (n : Int) (v : V) => v = .int n) xs (xs.map V.int) := by
        clear hx h1 e af
        induction xs with
        | nil => exact .nil
        | cons z zs ih => exact .cons rfl ih
      obtain ⟨w, w1, w2⟩ := atI_pd p e
      subst w2
      exact .inl ⟨a, _, i, _, rfl, hy.int, h1, w1, af.int E⟩
  · rename_i z i
    split at hf
    · rename_i hz
      cases e : atI z.cps.toList i with
      | none => rw [e] at hf; cases hf
      | some c =>
        rw [e] at hf; cases hf
        exact .inr (.inr ⟨z, i, c, hx.str, hy.int, by rw [sz_eq]; exact hz, e, af.str E⟩)
    · cases hf
  · cases hf
theorem de_ix {X : Cx} {C : Cn} {W : WX} {a b : Expr} {f g : M Opd} {pos : Pos} (hK : C.b.K = X.K) (ha : PE X a (tE C W f)) (hb : PE X b (tE C W g)) (hs : PlainIx b := by intro _ _; rfl) : PE X (.Subscript a b pos) (tE C W (e2 f g ixF)) :=
  PE.st (pe_ix ix_seq ha hb hs) fun _ _ _ h => tOp_of (ixD hK) h
end DL

set_option Elab.async false
set_option linter.all false
set_option maxRecDepth 100000
/-! The data layer: calls of built-in functions and types. -/
namespace DL
open PySem PySem.Spec L2
open PyProof.Rows hiding St

def looks : List Opd → DEnv → Option (List D)
  | [], _ => some []
  | o :: os, ρ => match look o ρ, looks os ρ with
    | some d, some ds => some (d :: ds)
    | _, _ => none
def finB (F : List D → Option Opd) (os : List Opd) (ρ : DEnv) : R Opd := match looks os ρ with
  | some ds => match F ds with
    | some o => .ok o ρ
    | none => .bad
  | none => .bad
def eB (fs : List (M Opd)) (F : List D → Option Opd) : M Opd := fun ρ => (eA fs ρ).bind fun os ρ1 => finB F os ρ1
def CallD (C : Cn) (F : List D → Option Opd) (r : List V → Hp → VK → Prop) : Prop := ∀ {Y : Gr} {G : Hp} {σ : St} {H : Hp} {ρ : DEnv} {Q : VK} {xs : List V} {ds : List D} {o : Opd}, ED C Y G σ H ρ → Paired (DV C.b G H) ds xs → F ds = some o → Aft C Y G σ ρ o Q → r xs H Q
section
variable {C : Cn} {Y : Gr} {G H : Hp} {σ : St} {ρ : DEnv}
theorem looks_ok (E : ED C Y G σ H ρ) : ∀ {os : List Opd} {vs : List V} {ds : List D}, allOD C Y G σ H ρ os vs → looks os ρ = some ds → Paired (DV C.b G H) ds vs
  | [], vs, ds, h, e => by
    cases e
    have : vs = [] := h
    subst this
    exact .nil
  | o :: os, vs, ds, h, e => by
    obtain ⟨v, r, rfl, h1, h2⟩ := h
    unfold looks at e
    cases e1 : look o ρ with
    | none => rw [e1] at e; cases e
    | some d =>
      cases e2 : looks os ρ with
      | none => rw [e1, e2] at e; cases e
      | some ds' =>
        rw [e1, e2] at e
        cases e
        exact .cons (look_ok E h1 e1) (looks_ok E h2 e2)
end
section
variable {X : Cx} {C : Cn} {W : WX} {e : Expr} {es : List Expr} {f : M Opd} {fs : List (M Opd)} {F : List D → Option Opd} {r : List V → Hp → VK → Prop} {x : Str} {id T : String} {p pos : Pos}
theorem tCB_of (hF : CallD C F r) {σ : St} {H : Hp} {Q : VK} (h : tE C W (eB fs F) σ H Q) : tCB r (tA C W (eA fs)) σ H Q := by
  obtain ⟨Y, G, ρ, E, q⟩ := h
  refine seqAp (C := C) Post.lk E q fun G1 H1 ρ1 os vs s1 pl E1 ods p1 => ?_
  unfold finB at p1
  cases l : looks os ρ1 with
  | none => rw [l] at p1; exact p1.elim
  | some ds =>
    rw [l] at p1
    dsimp only at p1
    cases hf : F ds with
    | none => rw [hf] at p1; exact p1.elim
    | some o => rw [hf] at p1; exact hF E1 (looks_ok E1 ods l) hf p1
theorem de_callB (hc : CallR X (.builtin id) r) (hF : CallD C F r) (hg : Gl X x) (hm : X.mg x = none) (hv : bootBuiltins x = some (.builtin id)) (ha : PA X (e :: es) (tA C W (eA fs))) (hn : x ≠ "__name__" := by decide) (hdb : (x == ("__debug__" : Str)) = false := by decide)
    (he : starEach (e :: es) X.env = (false, eval e X.env) :: starEach es X.env := by rfl) (hpl : (backTo pos (starEach es X.env)).any (·.1) = false := by rfl) : PE X (.Call (.Name x p) (e :: es) [] pos) (tE C W (eB fs F)) :=
  PE.st (pe_callB hc hg hm hv ha hn hdb he hpl) fun _ _ _ h => tCB_of hF h
theorem de_callTy (hc : CallR X (.type T) r) (hF : CallD C F r) (hg : Gl X x) (hm : X.mg x = none) (hv : bootBuiltins x = some (.type T)) (ha : PA X (e :: es) (tA C W (eA fs))) (hn : x ≠ "__name__" := by decide) (hdb : (x == ("__debug__" : Str)) = false := by decide)
    (he : starEach (e :: es) X.env = (false, eval e X.env) :: starEach es X.env := by rfl) (hpl : (backTo pos (starEach es X.env)).any (·.1) = false := by rfl) : PE X (.Call (.Name x p) (e :: es) [] pos) (tE C W (eB fs F)) :=
  PE.st (pe_callTy hc hg hm hv ha hn hdb he hpl) fun _ _ _ h => tCB_of hF h
end

/-! ### len, int, abs, max, min, str, list, tuple, any, all, sum -/
def lenF : List D → Option Opd
  | [.lst xs] => some (.val (.int xs.length))
  | [.tup xs] => some (.val (.int xs.length))
  | [.scr xs] => some (.val (.int xs.length))
  | [.str z] => if z.length ≤ 16777216 then some (.val (.int z.length)) else none
  | [.dK xs] => none
  | _ => none
def intF : List D → Option Opd
  | [.int i] => some (.val (.int i))
  | [.bl b] => some (.val (.int (if b then 1 else 0)))
  | _ => none
def absF : List D → Option Opd
  | [.int i] => some (.val (.int (if i < 0 then -i else i)))
  | _ => none
def maxF : List D → Option Opd
  | [.int i, .int j] => some (.val (.int (if j > i then j else i)))
  | _ => none
def minF : List D → Option Opd
  | [.int i, .int j] => some (.val (.int (if j < i then j else i)))
  | _ => none
def strF : List D → Option Opd
  | [.int i] => if i.natAbs.log2 < 1920 then some (.val (.str (toString i))) else none
  | _ => none
def listF : List D → Option Opd
  | [.lst xs] => some (.own (.lst xs))
  | [.tup xs] => some (.own (.lst xs))
  | _ => none
def tupleF : List D → Option Opd
  | [.lst xs] => some (.val (.tup xs))
  | [.tup xs] => some (.val (.tup xs))
  | _ => none
def asBl : List D → Option (List Bool)
  | [] => some []
  | .bl b :: r => (asBl r).map (b :: ·)
  | _ => none
def asInt : List D → Option (List Int)
  | [] => some []
  | .int b :: r => (asInt r).map (b :: ·)
  | _ => none
def anyF : List D → Option Opd
  | [.lst xs] => (asBl xs).map fun bs => .val (.bl (bs.any id))
  | _ => none
def allF : List D → Option Opd
  | [.lst xs] => (asBl xs).map fun bs => .val (.bl (bs.all id))
  | _ => none
def sumF : List D → Option Opd
  | [.lst xs] => (asInt xs).map fun bs => .val (.int bs.sum)
  | _ => none
section
variable {C : Cn} {G H : Hp} {K : PySem.W.Frag}
theorem pd1 {α β : Type} {F : α → β → Prop} {x : α} {ys : List β} (h : Paired F [x] ys) : ∃ y, ys = [y] ∧ F x y := by
  cases h with | cons a b => cases b; exact ⟨_, rfl, a⟩
theorem pd2 {α β : Type} {F : α → β → Prop} {x x' : α} {ys : List β} (h : Paired F [x, x'] ys) : ∃ y y', ys = [y, y'] ∧ F x y ∧ F x' y' := by
  cases h with | cons a b => cases b with | cons c d => cases d; exact ⟨_, _, rfl, a, c⟩
theorem asBl_den : ∀ {xs : List D} {bs : List Bool} {vs : List V}, asBl xs = some bs → denL C.b G xs vs → vs = bs.map V.bl
  | [], bs, vs, e, h => by cases e; unfold denL at h; exact h
  | x :: xs, bs, vs, e, h => by
    unfold denL at h
    obtain ⟨v, r, rfl, h1, h2⟩ := h
    cases x with
    | bl b =>
      unfold asBl at e
      cases e1 : asBl xs with
      | none => rw [e1] at e; cases e
      | some bs' =>
        rw [e1] at e; cases e
        rw [asBl_den e1 h2]
        unfold den at h1
        rw [h1]; rfl
    | _ => cases e
theorem asInt_den : ∀ {xs : List D} {bs : List Int} {vs : List V}, asInt xs = some bs → denL C.b G xs vs → vs = bs.map V.int
  | [], bs, vs, e, h => by cases e; unfold denL at h; exact h
  | x :: xs, bs, vs, e, h => by
    unfold denL at h
    obtain ⟨v, r, rfl, h1, h2⟩ := h
    cases x with
    | int b =>
      unfold asInt at e
      cases e1 : asInt xs with
      | none => rw [e1] at e; cases e
      | some bs' =>
        rw [e1] at e; cases e
        rw [asInt_den e1 h2]
        unfold den at h1
        rw [h1]; rfl
    | _ => cases e
theorem lenD (hK : C.b.K = K) : CallD C lenF (fun xs H Q => ∃ x n, xs = [x] ∧ LenV K x H n ∧ Q (.int n) H) := by
  intro Y G σ H ρ Q xs ds o E p hf af
  unfold lenF at hf
  split at hf
  · cases hf
    obtain ⟨v, rfl, h⟩ := pd1 p
    obtain ⟨a, vs, rfl, h1, h2⟩ := h.lst E.sub
    exact ⟨_, _, rfl, .inl ⟨vs, SqL.of h1, rfl⟩, by rw [← h2.len]; exact af.int E⟩
  · cases hf
    obtain ⟨v, rfl, h⟩ := pd1 p
    obtain ⟨a, vs, rfl, h1, h2⟩ := h.tup hK E.sub
    exact ⟨_, _, rfl, .inr ⟨vs, h1, rfl⟩, by rw [← h2.len]; exact af.int E⟩
  · cases hf
    obtain ⟨v, rfl, h⟩ := pd1 p
    obtain ⟨a, rfl, h1⟩ := h.scr hK E.sub
    exact ⟨_, _, rfl, .inl ⟨_, h1, rfl⟩, by rw [List.length_map]; exact af.int E⟩
  · split at hf
    · rename_i z hz
      cases hf
      obtain ⟨v, rfl, h⟩ := pd1 p
      rw [h.str]
      exact ⟨_, _, rfl, ⟨by rw [sz_eq]; exact hz, rfl⟩, af.int E⟩
    · cases hf
  · cases hf
  · cases hf
theorem intD : CallD C intF (fun xs H Q => (∃ i, xs = [.int i] ∧ Q (.int i) H) ∨ ∃ k, xs = [.bl k] ∧ Q (.int (if k then 1 else 0)) H) := by
  intro Y G σ H ρ Q xs ds o E p hf af
  unfold intF at hf
  split at hf
  · cases hf
    obtain ⟨v, rfl, h⟩ := pd1 p
    exact .inl ⟨_, by rw [h.int], af.int E⟩
  · cases hf
    obtain ⟨v, rfl, h⟩ := pd1 p
    exact .inr ⟨_, by rw [h.bl], af.int E⟩
  · cases hf
theorem absD : CallD C absF (fun xs H Q => ∃ i, xs = [.int i] ∧ Q (.int (if i < 0 then -i else i)) H) := by
  intro Y G σ H ρ Q xs ds o E p hf af
  unfold absF at hf
  split at hf
  · cases hf
    obtain ⟨v, rfl, h⟩ := pd1 p
    exact ⟨_, by rw [h.int], af.int E⟩
  · cases hf
theorem maxD : CallD C maxF (fun xs H Q => ∃ i j, xs = [.int i, .int j] ∧ Q (.int (if j > i then j else i)) H) := by
  intro Y G σ H ρ Q xs ds o E p hf af
  unfold maxF at hf
  split at hf
  · cases hf
    obtain ⟨v, v', rfl, h, h'⟩ := pd2 p
    exact ⟨_, _, by rw [h.int, h'.int], af.int E⟩
  · cases hf
theorem minD : CallD C minF (fun xs H Q => ∃ i j, xs = [.int i, .int j] ∧ Q (.int (if j < i then j else i)) H) := by
  intro Y G σ H ρ Q xs ds o E p hf af
  unfold minF at hf
  split at hf
  · cases hf
    obtain ⟨v, v', rfl, h, h'⟩ := pd2 p
    exact ⟨_, _, by rw [h.int, h'.int], af.int E⟩
  · cases hf
theorem strD : CallD C strF (fun xs H Q => ∃ i, xs = [.int i] ∧ i.natAbs.log2 < 1920 ∧ Q (.str (toString i)) H) := by
  intro Y G σ H ρ Q xs ds o E p hf af
  unfold strF at hf
  split at hf
  · split at hf
    · rename_i hz
      cases hf
      obtain ⟨v, rfl, h⟩ := pd1 p
      exact ⟨_, by rw [h.int], hz, af.str E⟩
    · cases hf
  · cases hf
theorem listD (hK : C.b.K = K) : CallD C listF (fun xs H Q => ∃ p ys, xs = [.ref p] ∧ (SqL K H p ys ∨ SqT K H p ys) ∧ ∀ l, H l = none → Q (.ref l) (upd H l (.lst ys))) := by
  intro Y G σ H ρ Q xs ds o E p hf af
  unfold listF at hf
  split at hf
  · cases hf
    obtain ⟨v, rfl, h⟩ := pd1 p
    obtain ⟨a, vs, rfl, h1, h2⟩ := h.lst E.sub
    exact ⟨a, vs, rfl, .inl (SqL.of h1), fun l hl => af.lst E hl h2⟩
  · cases hf
    obtain ⟨v, rfl, h⟩ := pd1 p
    obtain ⟨a, vs, rfl, h1, h2⟩ := h.tup hK E.sub
    exact ⟨a, vs, rfl, .inr h1, fun l hl => af.lst E hl h2⟩
  · cases hf
theorem tupleD (hK : C.b.K = K) : CallD C tupleF (fun xs H Q => ∃ p ys, xs = [.ref p] ∧ ((SqL K H p ys ∧ ∀ l, H l = none → Q (.ref l) (upd H l (.tup ys))) ∨ (SqT K H p ys ∧ Q (.ref p) H))) := by
  intro Y G σ H ρ Q xs ds o E p hf af
  unfold tupleF at hf
  split at hf
  · cases hf
    obtain ⟨v, rfl, h⟩ := pd1 p
    obtain ⟨a, vs, rfl, h1, h2⟩ := h.lst E.sub
    exact ⟨a, vs, rfl, .inl ⟨SqL.of h1, fun l hl => af.tup E hl h2⟩⟩
  · cases hf
    obtain ⟨v, rfl, h⟩ := pd1 p
    rcases h with h | ⟨q, _, h⟩
    · have h' := h
      unfold den at h'
      obtain ⟨a, vs, rfl, h1, h2⟩ := h'
      exact ⟨a, vs, rfl, .inr ⟨by rw [← hK]; exact E.sub.sqT h1, af.val E h⟩⟩
    · exact h.elim
  · cases hf
theorem anyD (hK : C.b.K = K) : CallD C anyF (rAny K) := by
  intro Y G σ H ρ Q xs ds o E p hf af
  unfold anyF at hf
  split at hf
  · rename_i ys
    cases e : asBl ys with
    | none => rw [e] at hf; cases hf
    | some bs =>
      rw [e] at hf; cases hf
      obtain ⟨v, rfl, h⟩ := pd1 p
      obtain ⟨a, vs, rfl, h1, h2⟩ := h.lst E.sub
      rw [asBl_den e h2] at h1
      exact ⟨a, bs, rfl, SqL.of h1, af.bl E⟩
  · cases hf
theorem allD (hK : C.b.K = K) : CallD C allF (rAll K) := by
  intro Y G σ H ρ Q xs ds o E p hf af
  unfold allF at hf
  split at hf
  · rename_i ys
    cases e : asBl ys with
    | none => rw [e] at hf; cases hf
    | some bs =>
      rw [e] at hf; cases hf
      obtain ⟨v, rfl, h⟩ := pd1 p
      obtain ⟨a, vs, rfl, h1, h2⟩ := h.lst E.sub
      rw [asBl_den e h2] at h1
      exact ⟨a, bs, rfl, SqL.of h1, af.bl E⟩
  · cases hf
theorem sumD (hK : C.b.K = K) : CallD C sumF (rSum K) := by
  intro Y G σ H ρ Q xs ds o E p hf af
  unfold sumF at hf
  split at hf
  · rename_i ys
    cases e : asInt ys with
    | none => rw [e] at hf; cases hf
    | some bs =>
      rw [e] at hf; cases hf
      obtain ⟨v, rfl, h⟩ := pd1 p
      obtain ⟨a, vs, rfl, h1, h2⟩ := h.lst E.sub
      rw [asInt_den e h2] at h1
      exact ⟨a, bs, rfl, SqL.of h1, af.int E⟩
  · cases hf
end
end DL

set_option Elab.async false
set_option linter.all false
set_option maxRecDepth 100000
set_option maxHeartbeats 2000000
/-! An own error whose __init__ says super().__init__(value) and keeps value: made, read, asked for its class. -/
namespace DL
open PySem PySem.Spec L2 PySem.W PySem.Calls HandSPX
open PyProof.Rows hiding St

def heA (p1 p2 : Pos) : Arguments := { posonlyargs := [], args := [{ arg := "self", annotation := none, pos := p1 }, { arg := "value", annotation := none, pos := p2 }], vararg := none, kwonlyargs := [], kw_defaults := [], kwarg := none, defaults := [] }
def heB : List Stmt :=
  [.Expr (.Call (.Attribute (.Call (.Name "super" ⟨5, 8, 5, 13⟩) [] [] ⟨5, 8, 5, 15⟩) "__init__" ⟨5, 8, 5, 24⟩) [.Name "value" ⟨5, 25, 5, 30⟩] [] ⟨5, 8, 5, 31⟩) ⟨5, 8, 5, 31⟩,
    .Assign [.Attribute (.Name "self" ⟨6, 8, 6, 12⟩) "value" ⟨6, 8, 6, 18⟩] (.Name "value" ⟨6, 21, 6, 26⟩) ⟨6, 8, 6, 26⟩]
def heS : Scope := { kind := .function, names := [(PySem.Str.ofString "self", .local), (PySem.Str.ofString "value", .local), (PySem.Str.ofString "__class__", .free), (PySem.Str.ofString "super", .globalImplicit)], isGenerator := false, isCoroutine := false, more := [] }

/-- what the written part says of HomeError, at B, and of its __init__ -/
structure BaseT (p : Program) (K : Frag) (mg : Str → Option Value) (B fI cc cda : Addr) : Prop where
  clB : ∃ cd, clsIn K B = some cd
  tF : typeIn K (.ref fI) = some (.type "function")
  opq : nsIn K cStatics "thirdparty.any" = some none
  sup : mg "super" = none
  main : (p.main.scope.names.lookup ("super" : Str)).isSome = false
  fn : ∃ (oc : Value) (od : Option Addr) (kV doc pm : Value) (an : Option Addr) (ct : Value) (osl : Array (Option Value)) (p1 p2 : Pos),
    K.lookup fI = some ⟨oc, od, .func (ksFn "__init__" "HomeError.__init__" (heA p1 p2) heB heS .none kV doc pm an (.ref cda) ct cc), osl⟩ ∧ codeIn K (.ref cda) "HomeError.__init__" = true
  code : ∃ (cl : Value) (cdd : Option Addr) (vs : Array Value) (sl : Array (Option Value)) (file : Str) (tf : Tok), K.lookup cda = some ⟨cl, cdd, .fields vs, sl⟩ ∧ vs[2]? = some (.str file tf) ∧ ((p.main.file : Str) == file) = true
  cell : ∃ (cl : Value) (cld : Option Addr) (sl : Array (Option Value)), K.lookup cc = some ⟨cl, cld, .cell (some (.ref B)), sl⟩
/-- .. of the class of errors called c, at T -/
structure ErrT (K : Frag) (B fI : Addr) (c : Str) (T : Addr) : Prop where
  cls : ∃ q N bs sn sub ab col dd k0 k1 k2 k3 k5, K.lookup T = some (excClassObj c q T N bs (if c = "HomeError" then veTail else .ref B :: veTail) true sn sub ab col dd k0 k1 k2 k3 k5 "ValueError.__new__")
  base : c = "HomeError" → T = B
  sa : findIn K (.ref T) "__setattr__" = some (some (.builtin "object.__setattr__"))
  ga : findIn K (.ref T) "__getattribute__" = some (some (.builtin "BaseException.__getattribute__"))
  gg : findIn K (.ref T) "__getattr__" = some none
  nv : findIn K (.ref T) "value" = some none
  ini : findIn K (.ref T) "__init__" = some (some (.ref fI))
  ca : findIn K (.ref T) "__class__" = some (some (.builtin "object.__class__"))
  kp : keepIn K (.ref T) = true
/-- HomeError stands at B -/
def IsBase (K : Frag) (B : Addr) : Prop := ∃ q N bs bm sn sub ab col dd k0 k1 k2 k3 k5, K.lookup B = some (excClassObj "HomeError" q B N bs bm true sn sub ab col dd k0 k1 k2 k3 k5 "ValueError.__new__")
section
variable {K : Frag} {B fI T U : Addr} {c d : Str}
theorem ErrT.cd (t : ErrT K B fI c T) : ∃ q N bs sn sub ab col, clsIn K T = some { name := c, bases := bs, mro := .ref T :: (if c = "HomeError" then veTail else .ref B :: veTail), ns := N, qualname := q, hasDict := true, slotNames := sn, subclasses := sub, abstract := ab, collection := col, hasDel := false } := by
  obtain ⟨q, N, bs, sn, sub, ab, col, dd, k0, k1, k2, k3, k5, h⟩ := t.cls
  exact ⟨q, N, bs, sn, sub, ab, col, by unfold clsIn; rw [h] <;> rfl⟩
theorem ErrT.ty (t : ErrT K B fI c T) : typeIn K (.ref T) = some (.type "type") := by
  obtain ⟨q, N, bs, sn, sub, ab, col, dd, k0, k1, k2, k3, k5, h⟩ := t.cls
  show (K.lookup T).map (·.cls) = _
  rw [h] <;> rfl
theorem ErrT.ve (t : ErrT K B fI c T) : refsVE (if c = "HomeError" then veTail else .ref B :: veTail) = true := by
  split
  · decide +kernel
  · show refsVE veTail = true
    decide +kernel
theorem ErrT.hd (t : ErrT K B fI c T) : hasDictIn K T = true := by
  obtain ⟨q, N, bs, sn, sub, ab, col, h⟩ := t.cd
  unfold hasDictIn; rw [h] <;> rfl
theorem ErrT.mro (t : ErrT K B fI c T) (x : Value) : mroIn K T x = some ((Value.ref T :: (if c = "HomeError" then veTail else .ref B :: veTail)).contains x) := by
  obtain ⟨q, N, bs, sn, sub, ab, col, h⟩ := t.cd
  unfold mroIn; rw [h] <;> rfl
theorem ErrT.mrT (t : ErrT K B fI c T) (X : String) : mroIn K T (.type X) = some (veTail.contains (.type X)) := by
  rw [t.mro, refsVE_contains X _ (show refsVE (Value.ref T :: _) = true from t.ve)]
theorem ErrT.exB (t : ErrT K B fI c T) : subIn K (.ref T) (.type "BaseException") = some true := (t.mrT _).trans (by decide +kernel)
theorem ErrT.veB (t : ErrT K B fI c T) : subIn K (.ref T) (.type "ValueError") = some true := (t.mrT _).trans (by decide +kernel)
theorem ErrT.mrO (t : ErrT K B fI c T) : mroIn K T (.type "object") = some true := (t.mrT _).trans (by decide +kernel)
theorem ErrT.mrB (t : ErrT K B fI c T) : mroIn K T (.ref B) = some true := by
  rw [t.mro]
  split
  · rename_i h; rw [t.base h]; simp
  · simp
/-- the names tell the classes apart -/
theorem ErrT.ne (t : ErrT K B fI c T) (u : ErrT K B fI d U) (h : c ≠ d) : T ≠ U := by
  intro e
  subst e
  obtain ⟨q, N, bs, sn, sub, ab, col, h1⟩ := t.cd
  obtain ⟨q', N', bs', sn', sub', ab', col', h2⟩ := u.cd
  rw [h1] at h2
  injection h2 with h2
  injection h2 with h2
  exact h h2
theorem ErrT.neB (t : ErrT K B fI c T) (b : IsBase K B) (h : c ≠ "HomeError") : T ≠ B := by
  intro e
  subst e
  obtain ⟨q, N, bs, sn, sub, ab, col, h1⟩ := t.cd
  obtain ⟨q', N', bs', bm', sn', sub', ab', col', dd, k0, k1, k2, k3, k5, h2⟩ := b
  unfold clsIn at h1
  rw [h2] at h1
  injection h1 with h1
  injection h1 with h1
  exact h h1.symm
theorem ErrT.sup (t : ErrT K B fI c T) (b : IsBase K B) : ks_superIn K T B "__init__" = some (some (.builtin "ValueError.__init__")) := by
  obtain ⟨q, N, bs, sn, sub, ab, col, h⟩ := t.cd
  unfold ks_superIn
  rw [h]
  show alongIn K "__init__" (((Value.ref T :: (if c = "HomeError" then veTail else .ref B :: veTail)).dropWhile (· != .ref B)).drop 1) = _
  have e : ((Value.ref T :: (if c = "HomeError" then veTail else .ref B :: veTail)).dropWhile (· != .ref B)).drop 1 = veTail := by
    by_cases hc : c = "HomeError"
    · rw [if_pos hc, t.base hc]
      simp [List.dropWhile_cons]
    · rw [if_neg hc]
      have := t.neB b hc
      simp [List.dropWhile_cons, this]
  rw [e]
  kernel_rfl
/-- isinstance between two classes of errors -/
theorem ErrT.kit (t : ErrT K B fI c T) (u : ErrT K B fI d U) (b : IsBase K B) (hcd : c = d → T = U) : kitOne K (.ref T) (.ref U) = some (decide (c = d) || decide (d = "HomeError")) := by
  unfold kitOne
  by_cases h : T = U
  · subst h
    have : c = d := Classical.byContradiction fun h => t.ne u h rfl
    simp [this]
  · have hc : c ≠ d := fun e => h (hcd e)
    rw [if_neg (by simpa using h)]
    obtain ⟨q, N, bs, sn, sub, ab, col, h1⟩ := u.cd
    show (if ((clsIn K U).isSome && typeIn K (.ref U) == some (.type "type")) = true then mroIn K T (.ref U) else none) = _
    rw [if_pos (by rw [h1, u.ty]; rfl), t.mro, decide_eq_false hc, Bool.false_or]
    congr 1
    have h' : (Value.ref U == Value.ref T) = false := by simpa using fun e => h e.symm
    rw [List.contains_cons, h', Bool.false_or]
    by_cases hd : d = "HomeError"
    · rw [if_neg (fun e => hc (e.trans hd.symm)), u.base hd, decide_eq_true hd, List.contains_cons]
      simp
    · rw [decide_eq_false hd]
      have := u.neB b hd
      split
      · simp [veTail]
      · rw [List.contains_cons]
        simp [veTail, this]
theorem ErrT.kitV (t : ErrT K B fI c T) : kitOne K (.ref T) (.type "ValueError") = some true := by
  unfold kitOne
  rw [if_neg (by simp)]
  show (if kitMeta "ValueError" = true then subIn K (.ref T) (.type "ValueError") else none) = _
  rw [if_pos (by decide +kernel), t.veB]
end

section
variable {prog : Program} {w : World} {A : Around} {E : Value → Shared → Prop} {R : Result → Shared → Prop} {K : Frag} {mg : Str → Option Value} {B fI cc cda T : Addr} {c : Str}

/-- the bound ValueError.__init__, called with one value -/
theorem he_call_mw {h : Heap} {g : Array GenState} {d : Drawn} {t : Nat} {os : OsState} {u e t0 : Addr} {v : Value} {Q : Value → Shared → Prop}
    {nm q : Str} {N : Addr} {bs bm : List Value} {sn : List Str} {sub : List Value} {ab : Bool} {col : Option Bool} {dd : Option Addr} {k0 k1 k2 k3 k5 : Option Value}
    (hC : h.get? T = some (excClassObj nm q T N bs bm true sn sub ab col dd k0 k1 k2 k3 k5 "ValueError.__new__")) (he : h.get? e = some (excO T t0)) (hu : h.get? u = some (kxs_mw "ValueError.__init__" e))
    (hq : ∀ h' t1, (∀ b o, b ≠ e → h.get? b = some o → h'.get? b = some o) → h'.get? e = some (excO T t1) → Q .none ⟨h', g, d, t, os⟩) :
    wpAny (model prog w) A (call (.ref u) [v]) Q E ⟨h, g, d, t, os⟩ := by
  have hz : [v].length ≤ sizeLine := by rw [sizeLine_eq]; exact (by decide : 1 ≤ 16777216)
  refine wpAny_call (codeAny_of_tree ?_)
  show wpAny _ A.in1 (callAny (.ref u) ⟨[v], []⟩) _ _ _
  simp only [callAny]
  refine wpAny_bind (wpAny_load hu ?_)
  simp only [kxs_mw, show (Value.type "method-wrapper" == Value.type "method" || Value.type "method-wrapper" == Value.type "builtin_function_or_method" || Value.type "method-wrapper" == Value.type "method-wrapper") = true by decide, if_true]
  refine KFB.if_so (by decide) (wpAny_bind (check_bound_init F.excBase_ValueError.toExcCallFacts hC he rfl (wpAny_bind (wpAny_pure (wpAny_pure ?_)))))
  refine ⟨plainId_quiet F.excBase_ValueError.init.plain _, codeAny_builtin F.excBase_ValueError.initEntry ?_⟩
  exact exc_init_tree (cls := .ref T) (t0 := t0) (dv := none) (c2 := .none) (c3 := .none) (b4 := .bool false) he hz (fun h' k e' _ => hq h' _ k e')

/-- the module's facts in a heap -/
structure ModH (K : Frag) (mg : Str → Option Value) (h : Heap) : Prop where
  kin : K.In h
  glob : h.Ns mainGlobals mg
  blt : ∃ mb, h.Ns builtinsNs mb ∧ ∀ x : Str, x ≠ "__name__" → mb x = bootBuiltins x
  nolimit : h.NoLimit
theorem ModH.keeps {h h' : Heap} (m : ModH K mg h) (k : ∀ b o, h.get? b = some o → h'.get? b = some o) : ModH K mg h' :=
  ⟨m.kin.keeps k, m.glob.keeps k, let ⟨mb, h1, h2⟩ := m.blt; ⟨mb, h1.keeps k, h2⟩, m.nolimit.keeps k⟩
theorem ldHe {M : Model} {s : Shared} {name : Str} {L a : Addr} {cd : Value} {cl : List (Str × Addr)} {m : Str → Option Value} {x : Str} {pos : Pos} {v : Value} {Q : Value → Shared → Prop} (hn : s.heap.Ns L m) (hv : m x = some v) (h : Q v s)
    (hl : (envX name heS L a cd cl).kindOf x = some .local := by rfl) (hd : (x == ("__debug__" : Str)) = false := by decide) : wpAny M A (eval (.Name x pos) (envX name heS L a cd cl)) Q E s :=
  wpAny_Name (wpAny_loadName_local (show (envX name heS L a cd cl).scope.kind = .function from rfl) hl hn hv h) hd

/-- what __init__ leaves of a fresh error at x -/
structure HeEnd (h h' : Heap) (x T dx t1 : Addr) (v : Value) : Prop where
  keep : ∀ b o, b ≠ x → h.get? b = some o → h'.get? b = some o
  obj : h'.get? x = some { cls := .ref T, dict := some dx, data := .fields #[.ref t1, .none, .none, .none, .bool false, .none] }
  dbig : h.objs.size ≤ dx
  dne : dx ≠ x
  ns : h'.Ns1 dx (fun y => if y = "value" then some v else none)
theorem he_init {s : Shared} (TB : BaseT prog K mg B fI cc cda) (TT : ErrT K B fI c T) (IB : IsBase K B) {x t0 : Addr} {v : Value} (Z : ModH K mg s.heap) (hx : s.heap.get? x = some (excO T t0)) (hnx : K.lookup x = none) (hroom : A.depth < recursionLimit)
    (hq : ∀ h' tk dx t1, HeEnd s.heap h' x T dx t1 v → R (.ok (.ret .none)) { s with heap := h', toks := tk }) :
    codeAny (model prog w) A (.call (.ref fI) ⟨[.ref x, v], []⟩) R s := by
  obtain ⟨oc, od, kV, doc, pm, an, ct, osl, p1, p2, ho, hcd⟩ := TB.fn
  obtain ⟨cl, cdd, cvs, csl, file, tf, hco, hvs, hfile⟩ := TB.code
  obtain ⟨cl2, cld, sl2, hcell⟩ := TB.cell
  obtain ⟨cdB, hB⟩ := TB.clB
  obtain ⟨q, N, bs, sn, sub, ab, col, dd, k0, k1, k2, k3, k5, hC⟩ := TT.cls
  have hbm := TT.ve
  generalize (if c = "HomeError" then veTail else Value.ref B :: veTail) = bm at hC hbm
  have hcls : clsIn K T = some { name := c, bases := bs, mro := .ref T :: bm, ns := N, qualname := q, hasDict := true, slotNames := sn, subclasses := sub, abstract := ab, collection := col, hasDel := false } := by unfold clsIn; rw [hC] <;> rfl
  refine ks_codeAny_call_defAt (fd := ksFn "__init__" "HomeError.__init__" (heA p1 p2) heB heS .none kV doc pm an (.ref cda) ct cc) (body := heB) (binds := [("self", .ref x), ("value", v)]) hroom (Z.kin _ _ ho) rfl Z.nolimit (codeRec_of Z.kin hcd) rfl
    (BindsTo.of_eq (by first | rfl | with_unfolding_all rfl)) (show ∀ y ∈ heS.names, y.2 ≠ .cell by decide) (by intro y hy; simp at hy; rcases hy with rfl | rfl <;> rfl) (fun h₁ hns hk => ?_)
  generalize hL : s.heap.objs.size = L at hns ⊢
  have hxL : L ≠ x := by rw [← hL]; exact Nat.ne_of_gt (Heap.lt_size hx)
  have Z1 : ModH K mg h₁ := Z.keeps hk
  have hx1 : h₁.get? x = some (excO T t0) := hk _ _ hx
  have I1 : InstAt h₁ x (excO T t0) T none := ⟨hx1, rfl, rfl, trivial⟩
  obtain ⟨oB, hB1, hB2⟩ : ∃ oD, h₁.get? B = some oD ∧ oD.data = .cls cdB := by
    unfold clsIn at hB
    split at hB
    · rename_i c d cd' sl ho
      cases hB
      exact ⟨_, Z1.kin _ _ ho, rfl⟩
    · cases hB
  -- super().__init__(value)
  show _root_.PySem.wpAt _ _ _ (execs (_ :: _) _) _ _ _
  refine ks_wpAt_execs_cons (ks_wpAt_Expr_any (ks_wpAt_MethodCall ?_))
  refine ks_wpAt_super_base (env := ksEnv "HomeError.__init__" heS L fI (.ref cda) cc) rfl rfl rfl rfl (Z1.kin _ _ ho) rfl rfl rfl (Z1.kin _ _ hco) rfl hvs hfile TB.main ?_
  obtain ⟨mb, hb1, hb2⟩ := Z1.blt
  refine ks_loadName_global rfl rfl (loadGlobal_builtin (env := ksEnv "HomeError.__init__" heS L fI (.ref cda) cc) Z1.glob TB.sup hb1 ((hb2 _ (by decide +kernel)).trans (by kernel_rfl)) ⟨rfl, ?_⟩)
  refine wpAny_loadName_free rfl rfl rfl ⟨_, Z1.kin _ _ hcell, rfl⟩ ?_
  refine wpAny_loadName_local rfl rfl hns (by first | rfl | with_unfolding_all rfl | kernel_rfl) ?_
  refine ks_wpAny_isType_cls hB1 hB2 ⟨rfl, ?_⟩
  refine ks_wpAny_call_super hB1 hB2 hx1 rfl (fun c e => by cases e) (looks_mroIn Z1.kin TT.mrB) (fun h₂ e₂ k₂ => ?_)
  have Z2 := Z1.keeps k₂
  have hx2 : h₂.get? x = some (excO T t0) := k₂ _ _ hx1
  have I2 : InstAt h₂ x (excO T t0) T none := ⟨hx2, rfl, rfl, trivial⟩
  have hs2 : h₂.Ns L (fun y => ([("self", Value.ref x), ("value", v)] : List (Str × Value)).reverse.lookup y) := hns.keeps k₂
  have hI : Looks (model prog w) h₂ (isInstance (.ref x) (.type "ValueError")) true := I2.type.andThen (looks_subIn Z2.kin TT.veB)
  have hsup := TT.sup IB
  unfold ks_superIn at hsup
  rw [hcls] at hsup
  have hmro : Looks (model prog w) h₂ (mroOf (.ref T)) (Value.ref T :: bm) := fun A Q E s k q => wpAny_bind ((looks_clsIn Z2.kin hcls) A _ E s k (wpAny_pure q))
  refine kxs_getMethod kxs_ValueError e₂ (looks_opaque Z2.kin TB.opq) hmro rfl Z2.kin hsup hI (ks_ne Z2.kin I2 hcls) (by decide) ?_
  generalize hU : h₂.objs.size = u
  have hu : (h₂.push (kxs_mw "ValueError.__init__" x)).get? u = some (kxs_mw "ValueError.__init__" x) := by rw [← hU]; exact Heap.get?_push_size _ rfl
  have k3 : ∀ b o, h₂.get? b = some o → (h₂.push (kxs_mw "ValueError.__init__" x)).get? b = some o := fun b o e => Heap.get?_push_of_some _ e
  generalize h₂.push (kxs_mw "ValueError.__init__" x) = h₃ at hu k3 ⊢
  have Z3 := Z2.keeps k3
  have hx3 : h₃.get? x = some (excO T t0) := k3 _ _ hx2
  have hs3 := hs2.keeps k3
  refine kxs_callWith1 (h₀ := {}) (L := u + 1) (x := x) (u := u) (i := "ValueError.__init__") (news := [(u, kxs_mw "ValueError.__init__" x)]) (fun p hp => ?_) (by simp) ?_ rfl rfl
  · have e : p = (u, kxs_mw "ValueError.__init__" x) := by simpa using hp
    subst e
    exact ⟨hu, Nat.ne_of_lt (Nat.lt_succ_self _), rfl⟩
  show wpAny _ _ (spliced ((false, eval (.Name "value" ⟨5, 25, 5, 30⟩) _) :: [])) _ _ _
  refine spliced_cons (ldHe (v := v) hs3 (by first | rfl | with_unfolding_all rfl | kernel_rfl) (spliced_nil ⟨hu, ?_⟩))
  refine he_call_mw (Z3.kin _ _ hC) hx3 hu (fun h₄ t1 k4 hx4 => ?_)
  -- self.value = value
  have Z4 : K.In h₄ := fun b o e => k4 b o (fun z => by rw [z, hnx] at e; cases e) (Z3.kin b o e)
  have hs4 : h₄.Ns L (fun y => ([("self", Value.ref x), ("value", v)] : List (Str × Value)).reverse.lookup y) := by
    obtain ⟨oL, es, ep, hL', r⟩ := hs3
    exact ⟨oL, es, ep, k4 _ _ hxL hL', r⟩
  refine wpAt_of_wpAny ?_
  show wpAny _ _ (execs _ _) _ _ _
  refine wpAny_execs_cons (plainObj_wpAny_Assign_Attribute ?_)
  refine ldHe (v := v) hs4 (by first | rfl | with_unfolding_all rfl | kernel_rfl) (ldHe (v := .ref x) hs4 (by first | rfl | with_unfolding_all rfl | kernel_rfl) ?_)
  refine set_plain Z4 (ox := excO T t1) (od := none) ⟨hx4, rfl, rfl, trivial⟩ TT.sa ?_
  refine exc_osa Z4 hx4 hcls (show refsVE (.ref T :: bm) = true from hbm) rfl TT.nv (fun h₅ tk₅ dx k₅ dn dne hx₅ hn₅ => ?_)
  show wpAny _ _ (execs _ _) _ _ _
  have big : s.heap.objs.size ≤ dx := by
    have z : L < h₄.objs.size := hs4.lt
    rw [hL]
    exact Nat.le_of_lt (Nat.lt_of_lt_of_le z dn)
  exact wpAny_execs_nil (hq h₅ tk₅ dx t1 ⟨fun b o hb e => k₅ b o hb (k4 b o hb (k3 b o (k₂ b o (hk b o e)))), hx₅, big, dne, hn₅⟩)

/-- a made error -/
structure HeMade (h h' : Heap) (e T d : Addr) (v : Value) : Prop where
  keep : ∀ b o, h.get? b = some o → h'.get? b = some o
  new : h.objs.size ≤ e
  obj : ∃ t1 : Addr, h'.get? e = some { cls := .ref T, dict := some d, data := .fields #[.ref t1, .none, .none, .none, .bool false, .none] }
  dbig : h.objs.size ≤ d
  dne : d ≠ e
  ns : h'.Ns1 d (fun y => if y = "value" then some v else none)
theorem he_made {s : Shared} (TB : BaseT prog K mg B fI cc cda) (TT : ErrT K B fI c T) (IB : IsBase K B) {v : Value} (Z : ModH K mg s.heap) (hroom : A.depth + 1 < recursionLimit)
    (hq : ∀ h' tk e d, HeMade s.heap h' e T d v → R (.ok (.ret (.ref e))) { s with heap := h', toks := tk }) :
    codeAny (model prog w) A (.call (.ref T) ⟨[v], []⟩) R s := by
  obtain ⟨q, N, bs, sn, sub, ab, col, dd, k0, k1, k2, k3, k5, hC⟩ := id TT.cls
  have hbm := TT.ve
  generalize (if c = "HomeError" then veTail else Value.ref B :: veTail) = bm at hC hbm
  obtain ⟨hp, g, dr, tk, os⟩ := s
  have kk : ∀ b o, hp.get? b = some o → ((hp.push (kdv_tup [v])).push (excO T hp.objs.size)).get? b = some o := fun b o e => Heap.get?_push_of_some _ (Heap.get?_push_of_some _ e)
  have hget : ((hp.push (kdv_tup [v])).push (excO T hp.objs.size)).get? (hp.objs.size + 1) = some (excO T hp.objs.size) := by heap_get
  have hnx : K.lookup (hp.objs.size + 1) = none := by
    cases e : K.lookup (hp.objs.size + 1) with
    | none => rfl
    | some o => exact absurd (Nat.lt_of_succ_lt (Heap.lt_size (Z.kin _ _ e))) (Nat.lt_irrefl _)
  refine call_own F.excBase_ValueError (fun X => refsVE_contains X bm hbm) (Z.kin _ _ hC) (looks_findIn Z.kin TT.ini) (fun self => bind_fn Z.kin self TB.tF) (by rw [sizeLine_eq]; exact (by decide : 1 ≤ 16777216)) ?_
  refine he_init (s := ⟨(hp.push (kdv_tup [v])).push (excO T hp.objs.size), g, dr, tk, os⟩) TB TT IB (Z.keeps kk) hget hnx ?_ fun h' tk' dx t1 M => ?_
  · show A.depth + 1 < recursionLimit
    exact hroom
  · have old : ∀ b o, hp.get? b = some o → h'.get? b = some o := fun b o e => M.keep b o (Nat.ne_of_lt (Nat.lt_succ_of_lt (Heap.lt_size e))) (kk b o e)
    have z : hp.objs.size + 1 + 1 ≤ dx := by
      have q := M.dbig
      first
        | (simpa only [Heap.size_push] using q)
        | exact q
    exact ⟨rfl, hq h' tk' (hp.objs.size + 1) dx ⟨old, Nat.le_succ _, ⟨t1, M.obj⟩, Nat.le_trans (Nat.le_trans (Nat.le_succ _) (Nat.le_succ _)) z, M.dne, M.ns⟩⟩
end
end DL

set_option Elab.async false
set_option linter.all false
set_option maxRecDepth 100000
set_option maxHeartbeats 2000000
/-! The data layer: errors made, raised, read; isinstance; repr. -/
namespace DL
open PySem PySem.Spec L2 PySem.W PySem.Calls
open PyProof.Rows hiding St

structure ErrC (p : Program) (C : Cn) : Prop where
  ex : ∃ B fI cc cda, BaseT p C.b.K C.b.mg B fI cc cda ∧ IsBase C.b.K B ∧ ∀ c ∈ C.b.errs, ∃ T, C.b.mg c = some (.ref T) ∧ ErrT C.b.K B fI c T
/-- what every body of the text knows -/
structure Ct (X : Cx) (C : Cn) : Prop where
  k : C.b.K = X.K
  mg : C.b.mg = X.mg
  err : ErrC X.prog C
  gd : X.A.guards = some []
  sm : ∃ o, X.base.get? sysModules = some o

theorem Inv.made2 {X : Cx} {pins : List (Addr × Obj)} {σ : St} {H : Hp} {s : Shared} (I : Inv X pins σ H s) {h' : Heap} {tk : Nat} {d e : Addr} {o1 o2 : HO} (k : ∀ b o, s.heap.get? b = some o → h'.get? b = some o)
    (hd : s.heap.objs.size ≤ d) (he : s.heap.objs.size ≤ e) (ne : d ≠ e) (n1 : ObjOk X.prog X.w (upd H d o1) h' d o1) (n2 : ObjOk X.prog X.w (upd (upd H d o1) e o2) h' e o2) :
    Inv X pins σ (upd (upd H d o1) e o2) { s with heap := h', toks := tk } := by
  have h1 := I.hok.fresh hd
  have h2 := I.hok.fresh he
  have h3 : upd H d o1 e = none := by rw [upd_ne (Ne.symm ne)]; exact h2
  refine I.un (Un.trans (Un.laid (h := s.heap) (h' := s.heap) (fun _ _ q => q) hd h1) (Un.laid k he h3)) ?_
  exact HOk.laidN (h := h') (I.hok.laid k hd n1) (fun _ _ q => q) h3 n2
theorem Inv.modH {X : Cx} {pins : List (Addr × Obj)} {σ : St} {H : Hp} {s : Shared} (I : Inv X pins σ H s) : ModH X.K X.mg s.heap :=
  ⟨I.kIn, I.mod.glob.keeps I.bk, let ⟨mb, h1, h2⟩ := I.mod.blt; ⟨mb, h1.keeps I.bk, h2⟩, I.nolimit⟩
theorem relO_val {v : V} {v' : Value} (r : RelV v v') (f : Str) : RelO (List.lookup f [(("value" : Str), v)]) (if f = "value" then some v' else none) := by
  by_cases hw : f = "value"
  · subst hw
    rw [if_pos rfl, show List.lookup ("value" : Str) [(("value" : Str), v)] = some v by simp [List.lookup]]
    exact r
  · rw [if_neg hw, show List.lookup f [(("value" : Str), v)] = none by simp [List.lookup, show (f == ("value" : Str)) = false by simpa using hw]]
    trivial

def eErr (f : M Opd) (c : Str) : M Opd := fun ρ => (eA [f] ρ).bind fun os ρ1 => match takeAll os ρ1 with
  | some ([d], ρ2) => .ok (.val (.exc c d)) ρ2
  | _ => .bad
def sRaise (f : M Opd) (c : Str) : M Fl := fun ρ => (eA [f] ρ).bind fun os ρ1 => match takeAll os ρ1 with
  | some ([d], ρ2) => .exc c d ρ2
  | _ => .bad
section
variable {X : Cx} {C : Cn} {W : WX} {e : Expr} {f : M Opd} {c : Str} {p pos : Pos}
theorem de_err (hC : Ct X C) {k : Nat} (hr : Room k X.A) (hc : c ∈ C.b.errs) (ha : PA X [e] (tA C W (eA [f]))) (hg : Gl X c) (hd : (c == ("__debug__" : Str)) = false := by decide)
    (hs : starEach (e :: []) X.env = (false, eval e X.env) :: starEach [] X.env := by rfl) (hpl : (backTo pos (starEach [] X.env)).any (·.1) = false := by rfl) :
    PE X (.Call (.Name c p) [e] [] pos) (tE C W (eErr f c)) := by
  obtain ⟨B, fI, cc, cda, TB, IB, TE⟩ := hC.err.ex
  obtain ⟨T, hT, TT⟩ := TE c hc
  refine ⟨fun pins s σ H Q I h => ?_⟩
  obtain ⟨Y, G, ρ, E, q⟩ := h
  have TT' : ErrT X.K B fI c T := by rw [← hC.k]; exact TT
  have IB' : IsBase X.K B := by rw [← hC.k]; exact IB
  have TB' : BaseT X.prog X.K X.mg B fI cc cda := by rw [← hC.k, ← hC.mg]; exact TB
  refine wpAny_Call_Name_kw (ld_glob I hg (by rw [← hC.mg]; exact hT) ?_ hd)
  refine PySem.W.callWith_K (h₀ := X.base) I.ok.mod.kin TT'.kp (thn (ha.run pos pins s σ H _ I (seqAp (S := fun vs H1 => ∃ v, vs = [v] ∧ ∀ d x, H1 d = none → H1 x = none → d ≠ x → Q (.ref x) (upd (upd H1 d (.xd [(("value" : Str), v)])) x (ExH T d x))) Post.lk E q ?_)) fun us s1 hh => ?_) hs hpl
  · intro G1 H1 ρ1 os vs s1 pl E1 ods p1
    cases t : takeAll os ρ1 with
    | none => rw [t] at p1; exact p1.elim
    | some z =>
      obtain ⟨ds, ρ2⟩ := z
      rw [t] at p1
      obtain ⟨G2, s2, E2, d2⟩ := takeAll_ok E1 pl ods t
      cases ds with
      | nil => exact p1.elim
      | cons d0 ds =>
        cases ds with
        | cons _ _ => exact p1.elim
        | nil =>
          unfold denL at d2
          obtain ⟨v, r, rfl, d3, d4⟩ := d2
          unfold denL at d4
          subst d4
          refine ⟨v, rfl, fun d x hd hx hne => ?_⟩
          have E3 := E2.froze (o := .xd [(("value" : Str), v)]) hd
          have g3 : Sub G2 (upd G2 d (.xd [(("value" : Str), v)])) := Sub.new (E2.gn hd)
          have hx3 : upd H1 d (.xd [(("value" : Str), v)]) x = none := by rw [upd_ne (Ne.symm hne)]; exact hx
          have E4 := E3.froze (o := ExH T d x) hx3
          have g4 : Sub (upd G2 d (.xd [(("value" : Str), v)])) (upd (upd G2 d (.xd [(("value" : Str), v)])) x (ExH T d x)) := Sub.new (E3.gn hx3)
          refine p1 _ _ _ ((s2.trans g3).trans g4) E4 ?_
          unfold OD den
          exact ⟨x, d, T, v, rfl, ⟨hc, hT⟩, upd_same, g4 _ _ upd_same, den.mono (g3.trans g4) _ _ d3⟩
  · obtain ⟨vs, H1, I1, r1, v, ev, q1⟩ := hh
    subst ev
    refine ⟨I1.kIn, ?_⟩
    cases r1 with
    | cons rv rn =>
      rename_i v' us'
      cases rn
      show wpAny _ _ (call (.ref T) [v']) _ _ _
      have Z := Inv.modH I1
      obtain ⟨hp, g, dr, tk, os⟩ := s1
      refine wpAny_call (he_made TB' TT' IB' Z (by have := hr.dp; omega) fun h' tk' x d M => ?_)
      show EP X pins σ Q (.ref x) ⟨h', g, dr, tk', os⟩
      obtain ⟨t1, hx⟩ := M.obj
      have J := Inv.made2 (tk := tk') I1 M.keep M.dbig M.new M.dne (o1 := .xd [(("value" : Str), v)]) (o2 := ExH T d x)
        (show ∃ mA, h'.Ns1 d mA ∧ ∀ f, RelO ([(("value" : Str), v)].lookup f) (mA f) from ⟨_, M.ns, fun f => relO_val rv f⟩)
        ⟨⟨_, _, hx, rfl, rfl, rfl⟩, ⟨_, hx⟩, fun h1 h2 ⟨oe, vs, a1, a2⟩ kk => ⟨oe, vs, kk _ a1, a2⟩⟩
      exact ⟨.ref x, _, J, rfl, q1 d x (I1.hok.fresh M.dbig) (I1.hok.fresh M.new) M.dne⟩
/-- T(e), made to be raised -/
def tMkE (T : Addr) (ta : TA) : St → Hp → XK → Prop := fun σ H Q => ta σ H fun vs H1 => ∃ v, vs = [v] ∧ ∀ d, H1 d = none → Q (.ref T) (some d) (upd H1 d (.xd [(("value" : Str), v)]))
theorem pmk_err {ta : TA} {B fI cc cda T : Addr} {k : Nat} (TB : BaseT X.prog X.K X.mg B fI cc cda) (IB : IsBase X.K B) (TT : ErrT X.K B fI c T) (hT : X.mg c = some (.ref T)) (hr : Room k X.A) (ha : PA X [e] ta) (hg : Gl X c) (hd : (c == ("__debug__" : Str)) = false := by decide)
    (hs : starEach (e :: []) X.env = (false, eval e X.env) :: starEach [] X.env := by rfl) (hpl : (backTo pos (starEach [] X.env)).any (·.1) = false := by rfl) :
    PMk X (.Call (.Name c p) [e] [] pos) (tMkE T ta) := by
  intro pins s σ H Q I h
  refine wpAny_Call_Name_kw (ld_glob I hg hT ?_ hd)
  refine PySem.W.callWith_K (h₀ := X.base) I.ok.mod.kin TT.kp (thn (ha.run pos pins s σ H _ I h) fun us s1 hh => ?_) hs hpl
  obtain ⟨vs, H1, I1, r1, v, ev, q1⟩ := hh
  subst ev
  refine ⟨I1.kIn, ?_⟩
  cases r1 with
  | cons rv rn =>
    rename_i v' us'
    cases rn
    show wpAny _ _ (call (.ref T) [v']) _ _ _
    have Z := Inv.modH I1
    obtain ⟨hp, g, dr, tk, os⟩ := s1
    refine wpAny_call (he_made TB TT IB Z (by have := hr.dp; omega) fun h' tk' x d M => ?_)
    show MkP X pins σ Q (.ref x) ⟨h', g, dr, tk', os⟩
    obtain ⟨t1, hx⟩ := M.obj
    obtain ⟨G', g1, g2⟩ := restrict h' fun b => decide (b ≠ x)
    have gk : ∀ b, b ≠ x → G'.get? b = h'.get? b := fun b hb => g1 b (decide_eq_true hb)
    have ge : G'.get? x = none := g2 x (by simp)
    have old : ∀ b o, hp.get? b = some o → G'.get? b = some o := fun b o q => (gk b (Nat.ne_of_lt (Nat.lt_of_lt_of_le (Heap.lt_size q) M.new))).trans (M.keep b o q)
    have J : Inv X pins σ (upd H1 d (.xd [(("value" : Str), v)])) ⟨G', g, dr, tk', os⟩ :=
      I1.laid (t' := tk') old M.dbig (show ∃ mA, G'.Ns1 d mA ∧ ∀ f, RelO ([(("value" : Str), v)].lookup f) (mA f) from ⟨_, M.ns.at (fun o q => (gk d M.dne).trans q), fun f => relO_val rv f⟩)
    refine ⟨x, _, _, ⟨G', g, dr, tk', os⟩, _, .ref T, some d, rfl, J, fun b o q => ?_, ge, hx, ⟨rfl, rfl⟩, rfl, rfl, ?_, rfl, I1.bare, raises_own TT.exB TT.ty, q1 d (I1.hok.fresh M.dbig)⟩
    · by_cases hb : b = x
      · have q' : G'.get? b = some o := q
        rw [hb, ge] at q'; cases q'
      · exact (gk b hb).symm.trans q
    · rw [upd_ne (Ne.symm M.dne)]
      exact I1.hok.fresh M.new
/-- raise X(e) -/
theorem ds_raise (hC : Ct X C) {k : Nat} (hr : Room k X.A) (hcm : X.calm = true) (tk : Takes X W) (hc : c ∈ C.b.errs) (ha : PA X [e] (tA C W (eA [f]))) (hg : Gl X c) {pos2 : Pos} (hd : (c == ("__debug__" : Str)) = false := by decide)
    (hs : starEach (e :: []) X.env = (false, eval e X.env) :: starEach [] X.env := by rfl) (hpl : (backTo pos (starEach [] X.env)).any (·.1) = false := by rfl) :
    PS X (.Raise (some (.Call (.Name c p) [e] [] pos)) none pos2) (tS C W (sRaise f c)) := by
  obtain ⟨B, fI, cc, cda, TB, IB, TE⟩ := hC.err.ex
  obtain ⟨T, hT, TT⟩ := TE c hc
  have TT' : ErrT X.K B fI c T := by rw [← hC.k]; exact TT
  have IB' : IsBase X.K B := by rw [← hC.k]; exact IB
  have TB' : BaseT X.prog X.K X.mg B fI cc cda := by rw [← hC.k, ← hC.mg]; exact TB
  refine PS.st (ps_raise (W := W) hcm tk (pmk_err TB' IB' TT' (by rw [← hC.mg]; exact hT) hr ha hg hd hs hpl)) fun N σ H h => ?_
  obtain ⟨Y, G, ρ, E, q⟩ := h
  refine seqAp (C := C) (PostS.lk (σ := σ)) E q fun G1 H1 ρ1 os vs s1 pl E1 ods p1 => ?_
  cases t : takeAll os ρ1 with
  | none => rw [t] at p1; exact p1.elim
  | some z =>
    obtain ⟨ds, ρ2⟩ := z
    rw [t] at p1
    obtain ⟨G2, s2, E2, d2⟩ := takeAll_ok E1 pl ods t
    cases ds with
    | nil => exact p1.elim
    | cons d0 ds =>
      cases ds with
      | cons _ _ => exact p1.elim
      | nil =>
        unfold denL at d2
        obtain ⟨v, r, rfl, d3, d4⟩ := d2
        unfold denL at d4
        subst d4
        refine ⟨v, rfl, fun d hd => ?_⟩
        exact p1 T d G2 σ _ hT s2 (E2.laid hd) ⟨v, upd_same, d3⟩

/-! ### e.value, isinstance -/
def valF : D → Option Opd
  | .exc _ d => some (.val d)
  | _ => none
/-- an error that is held -/
theorem inst_of (hC : Ct X C) {B fI : Addr} {G H : Hp} {pins : List (Addr × Obj)} {σ : St} {s : Shared} (I : Inv X pins σ H s) (sub : Sub G H) {d : D} {v : V} (TE : ∀ c ∈ C.b.errs, ∃ T, C.b.mg c = some (.ref T) ∧ ErrT C.b.K B fI c T) (h : den C.b G (.exc c d) v) :
    ∃ a dx T u oe od, v = .ref a ∧ c ∈ C.b.errs ∧ C.b.mg c = some (.ref T) ∧ ErrT X.K B fI c T ∧ PySem.W.InstAt s.heap a oe T (some od) ∧ H dx = some (.xd [(("value" : Str), u)]) ∧ den C.b G d u ∧ s.heap.get? dx = some od := by
  unfold den at h
  obtain ⟨a, dx, T, u, rfl, ⟨hc, hT⟩, h1, h2, h3⟩ := h
  obtain ⟨T', hT', TT⟩ := TE c hc
  rw [hT] at hT'
  cases hT'
  obtain ⟨⟨oe, vs, a1, a2, a3, a4⟩, _, _⟩ : ObjOk X.prog X.w H s.heap a (ExH T dx a) := I.hok a _ (sub _ _ h1)
  obtain ⟨mA, hns, hr⟩ : ObjOk X.prog X.w H s.heap dx (.xd [(("value" : Str), u)]) := I.hok dx _ (sub _ _ h2)
  obtain ⟨od, ho, hl⟩ := lookIn_ns hns
  exact ⟨a, dx, T, u, oe, od, rfl, hc, hT, by rw [← hC.k]; exact TT, ⟨a1, a2, by unfold PySem.W.notCls; rw [a4] <;> rfl, by rw [a3]; exact ho⟩, sub _ _ h2, h3, ho⟩
theorem de_value (hC : Ct X C) (he : PE X e (tE C W f)) (hb : attributeBase e "value" X.env (eval e X.env) = eval e X.env := by rfl) : PE X (.Attribute e "value" pos) (tE C W (e1 f valF)) := by
  refine ⟨fun pins s σ H Q I h => ?_⟩
  obtain ⟨Y, G, ρ, E, p⟩ := h
  refine attr_of hb (thn (he.run pins s σ H _ I (seq1 (S := fun v H1 => ∃ G1 c d, Sub G1 H1 ∧ den C.b G1 (.exc c d) v ∧ ∀ u, den C.b G1 d u → Q u H1) Post.lk E p ?_)) fun u s1 hh => ?_)
  · intro G1 H1 ρ1 o1 v1 s1 pl1 E1 od1 p1
    unfold fin1 at p1
    cases l : look o1 ρ1 with
    | none => rw [l] at p1; exact p1.elim
    | some d =>
      rw [l] at p1
      dsimp only at p1
      cases d with
      | exc c d =>
        rcases look_ok E1 od1 l with h | ⟨_, _, h⟩
        · exact ⟨G1, c, d, E1.sub, h, fun u hu => p1 G1 H1 u Sub.rfl E1 hu⟩
        · exact h.elim
      | _ => exact p1.elim
  · obtain ⟨x, H1, I1, rx, G1, c, d, sub, dn, q⟩ := hh
    obtain ⟨B, fI, cc, cda, TB, IB, TE⟩ := hC.err.ex
    obtain ⟨a, dx, T, u', oe, od, rfl, hc, hT, TT, J, hx, du, ho⟩ := inst_of hC I1 sub TE dn
    obtain rfl : u = Value.ref a := rx
    obtain ⟨mA, hns, hr⟩ : ObjOk X.prog X.w H1 s1.heap dx (.xd [(("value" : Str), u')]) := I1.hok dx _ hx
    obtain ⟨od', ho', hl⟩ := lookIn_ns hns
    rw [ho] at ho'
    cases ho'
    have l : List.lookup ("value" : Str) [(("value" : Str), u')] = some u' := by simp [List.lookup]
    obtain ⟨uu, hu, ru⟩ := RelO.some_of (v := u') (o := mA "value") (by rw [← l]; exact hr "value")
    exact HandSPX.exc_get I1.kIn J TT.ga TT.gg TT.exB (PySem.W.findObj_own TT.hd TT.nv rfl (by rw [hl, hu])) (handed_of ru) ⟨u', H1, I1.tok _, ru, q u' du⟩

/-! isinstance -/
inductive ClsD where
  | ty (n : String) | err (c : Str)
def isTyB (n : String) (d : D) : Option Bool :=
  if n = "int" then some (match d with | .int _ => true | .bl _ => true | _ => false)
  else if n = "bool" then some (match d with | .bl _ => true | _ => false)
  else if n = "str" then some (match d with | .str _ => true | _ => false)
  else if n = "tuple" then some (match d with | .tup _ => true | _ => false)
  else if n = "ValueError" then some (match d with | .exc _ _ => true | _ => false)
  else none
def isiB : ClsD → D → Option Bool
  | .ty n, d => isTyB n d
  | .err c', .exc c _ => some (decide (c = c') || decide (c' = "HomeError"))
  | .err _, _ => some false
def isiF (cl : ClsD) : D → Option Opd := fun d => (isiB cl d).map fun b => .val (.bl b)
/-- what a class's name stands for -/
def ClsIs (C : Cn) (B fI : Addr) : ClsD → Value → Prop
  | .ty n, u => u = .type n
  | .err c, u => ∃ T, u = .ref T ∧ C.b.mg c = some (.ref T) ∧ ErrT C.b.K B fI c T
/-- the built-in type of plain data -/
def tyD : D → Option String
  | .non => some "NoneType" | .bl _ => some "bool" | .int _ => some "int" | .str _ => some "str" | .lst _ => some "list" | .scr _ => some "list" | .tup _ => some "tuple" | .dK _ => some "dict" | .exc _ _ => none
theorem tyx_of {K : PySem.W.Frag} (hK : C.b.K = K) {G H : Hp} (s : Sub G H) {d : D} {v : V} {n : String} (h : DV C.b G H d v) (hn : tyD d = some n) : TyX K H v (.type n) := by
  subst hK
  cases d with
  | non => cases hn; rw [h.non]; exact .base .non
  | bl b => cases hn; rw [h.bl]; exact .base (.bl b)
  | int b => cases hn; rw [h.int]; exact .base (.int b)
  | str b => cases hn; rw [h.str]; exact .base (.str b)
  | lst xs =>
    cases hn
    obtain ⟨a, vs, rfl, h1, _⟩ := h.lst s
    exact .base (.lst h1)
  | dK xs =>
    cases hn
    obtain ⟨a, vs, rfl, h1, _⟩ := h.dK s
    exact .base (.dK h1)
  | tup xs =>
    cases hn
    obtain ⟨a, vs, rfl, h1, _⟩ := h.tup rfl s
    rcases h1 with (h1 | ⟨o, h1⟩) | ⟨o, its, n, h1, h2, _⟩
    · exact .base (.tup h1)
    · exact .fTuple h1
    · exact .kTuple h1 h2
  | scr xs =>
    cases hn
    obtain ⟨a, rfl, h1⟩ := h.scr rfl s
    rcases h1 with (h1 | ⟨o, h1⟩) | ⟨o, its, n, h1, h2, _⟩
    · exact .base (.lst h1)
    · exact .base (.frz h1)
    · exact .kList h1 h2
  | exc c d => cases hn
theorem ref_no {a : String} {U : Addr} (h : a ∈ ["NoneType", "bool", "int", "str", "list", "tuple", "dict"]) : (PySem.fastBuiltinMro a).map (·.contains (Value.ref U)) = some false := by
  simp only [List.mem_cons, List.mem_nil_iff, or_false] at h
  rcases h with rfl | rfl | rfl | rfl | rfl | rfl | rfl <;> kernel_rfl
theorem tyD_mem {d : D} {n : String} (h : tyD d = some n) : n ∈ ["NoneType", "bool", "int", "str", "list", "tuple", "dict"] := by
  cases d <;> cases h <;> decide
/-- plain data against a built-in type -/
theorem kit_plain {K : PySem.W.Frag} {d : D} {n m : String} {b : Bool} (h : tyD d = some n) (e : isTyB m d = some b) : PySem.W.kitOne K (.type n) (.type m) = some b := by
  unfold isTyB at e
  split at e
  · rename_i hm
    subst hm
    cases d <;> cases h <;> cases e <;> first | exact kit_ty (r := true) (by decide +kernel) | exact kit_ty (r := false) (by decide +kernel)
  · split at e
    · rename_i hm
      subst hm
      cases d <;> cases h <;> cases e <;> first | exact kit_ty (r := true) (by decide +kernel) | exact kit_ty (r := false) (by decide +kernel)
    · split at e
      · rename_i hm
        subst hm
        cases d <;> cases h <;> cases e <;> first | exact kit_ty (r := true) (by decide +kernel) | exact kit_ty (r := false) (by decide +kernel)
      · split at e
        · rename_i hm
          subst hm
          cases d <;> cases h <;> cases e <;> first | exact kit_ty (r := true) (by decide +kernel) | exact kit_ty (r := false) (by decide +kernel)
        · split at e
          · rename_i hm
            subst hm
            cases d <;> cases h <;> cases e <;> first | exact kit_ty (r := true) (by decide +kernel) | exact kit_ty (r := false) (by decide +kernel)
          · cases e
/-- plain data against a class of errors -/
theorem kit_noerr {K : PySem.W.Frag} {B fI U : Addr} {c : Str} {d : D} {n : String} (h : tyD d = some n) (u : ErrT K B fI c U) : PySem.W.kitOne K (.type n) (.ref U) = some false := by
  unfold PySem.W.kitOne
  rw [if_neg (by simp)]
  obtain ⟨q, N, bs, sn, sub, ab, col, h1⟩ := u.cd
  show (if ((PySem.W.clsIn K U).isSome && PySem.W.typeIn K (.ref U) == some (.type "type")) = true then (PySem.fastBuiltinMro n).map (·.contains (Value.ref U)) else none) = _
  rw [if_pos (by rw [h1, u.ty]; rfl), ref_no (tyD_mem h)]
/-- an error against a built-in type -/
theorem kit_errty {K : PySem.W.Frag} {B fI T : Addr} {c : Str} {d : D} {m : String} {b : Bool} (t : ErrT K B fI c T) (e : isTyB m (.exc c d) = some b) : PySem.W.kitOne K (.ref T) (.type m) = some b := by
  have key : ∀ m : String, PySem.W.kitMeta m = true → PySem.W.kitOne K (.ref T) (.type m) = some (HandSPX.veTail.contains (.type m)) := fun m hm => by
    unfold PySem.W.kitOne
    rw [if_neg (by simp)]
    show (if PySem.W.kitMeta m = true then PySem.W.mroIn K T (.type m) else none) = _
    rw [if_pos hm, t.mrT]
  unfold isTyB at e
  split at e
  · rename_i hm; subst hm; cases e; (refine (key _ (by decide +kernel)).trans ?_); first | exact (show some (HandSPX.veTail.contains _) = some true by decide +kernel) | exact (show some (HandSPX.veTail.contains _) = some false by decide +kernel)
  · split at e
    · rename_i hm; subst hm; cases e; (refine (key _ (by decide +kernel)).trans ?_); first | exact (show some (HandSPX.veTail.contains _) = some true by decide +kernel) | exact (show some (HandSPX.veTail.contains _) = some false by decide +kernel)
    · split at e
      · rename_i hm; subst hm; cases e; (refine (key _ (by decide +kernel)).trans ?_); first | exact (show some (HandSPX.veTail.contains _) = some true by decide +kernel) | exact (show some (HandSPX.veTail.contains _) = some false by decide +kernel)
      · split at e
        · rename_i hm; subst hm; cases e; (refine (key _ (by decide +kernel)).trans ?_); first | exact (show some (HandSPX.veTail.contains _) = some true by decide +kernel) | exact (show some (HandSPX.veTail.contains _) = some false by decide +kernel)
        · split at e
          · rename_i hm; subst hm; cases e; (refine (key _ (by decide +kernel)).trans ?_); first | exact (show some (HandSPX.veTail.contains _) = some true by decide +kernel) | exact (show some (HandSPX.veTail.contains _) = some false by decide +kernel)
          · cases e
theorem kitx_err {K : PySem.W.Frag} {B fI T a : Addr} {c : Str} {oe : Obj} {od : Option Obj} (t : ErrT K B fI c T) : PySem.W.KitX K (.ref a) (.ref T) (fun h => PySem.W.InstAt h a oe T od) :=
  PySem.W.kitx_exc (by obtain ⟨q, N, bs, sn, sub, ab, col, h1⟩ := t.cd; rw [h1]; rfl) t.ga t.gg t.exB t.ca (by kernel_rfl) (by kernel_rfl) t.mrO

/-- isinstance(x, c): x data, c one class -/
def rIsD (C : Cn) (B fI : Addr) (cl : ClsD) (cv : Value) : List V → Hp → VK → Prop := fun xs H Q => ∃ x c G d b, xs = [x, c] ∧ (∀ u, RelV c u → u = cv) ∧ Sub G H ∧ DV C.b G H d x ∧ ClsIs C B fI cl cv ∧ isiB cl d = some b ∧ Q (.bl b) H
theorem call_isD (hC : Ct X C) {B fI : Addr} (IB : IsBase C.b.K B) (TE : ∀ c ∈ C.b.errs, ∃ T, C.b.mg c = some (.ref T) ∧ ErrT C.b.K B fI c T) (cl : ClsD) (cv : Value) : CallR X (.builtin "isinstance") (rIsD C B fI cl cv) := by
  intro pins s σ H xs us Q I r h
  obtain ⟨x, c, G, d, b, rfl, hcv, sub, dv, hcl, e, q⟩ := h
  obtain ⟨u1, u2, rfl, r1, r2⟩ := vals2 r
  obtain rfl := hcv _ r2
  by_cases hx : ∃ c0 d0, d = .exc c0 d0
  · obtain ⟨c0, d0, rfl⟩ := hx
    rcases dv with dv | ⟨_, _, dv⟩
    · obtain ⟨a, dx, T, u, oe, od, rfl, hc, hT, TT, J, _⟩ := inst_of hC I sub TE dv
      obtain rfl : u1 = Value.ref a := r1
      have ek : PySem.W.kitOne X.K (.ref T) u2 = some b := by
        cases cl with
        | ty n => obtain rfl : u2 = .type n := hcl; exact kit_errty (d := d0) TT e
        | err c' =>
          obtain ⟨U, rfl, hU, UT⟩ := hcl
          cases e
          refine TT.kit (by rw [← hC.k]; exact UT) (by rw [← hC.k]; exact IB) (fun e => ?_)
          rw [e, hU] at hT
          exact (Value.ref.inj (Option.some.inj hT)).symm
      exact PySem.W.kia_one (kitx_err TT) I.kIn J ek (fun z => nomatch z) fun tk => ⟨.bl b, H, I.tok tk, rfl, q⟩
    · exact dv.elim
  · obtain ⟨n, hn⟩ : ∃ n, tyD d = some n := by
      cases d <;> first | exact ⟨_, rfl⟩ | exact absurd ⟨_, _, rfl⟩ hx
    have ek : PySem.W.kitOne X.K (.type n) u2 = some b := by
      cases cl with
      | ty m => obtain rfl : u2 = .type m := hcl; exact kit_plain hn e
      | err c' =>
        obtain ⟨U, rfl, hU, UT⟩ := hcl
        have : b = false := by
          cases d <;> first | (cases e; rfl) | exact absurd ⟨_, _, rfl⟩ hx
        subst this
        exact kit_noerr hn (by rw [← hC.k]; exact UT)
    obtain ⟨P, Z, p, hx⟩ := kit_of I r1 (tyx_of hC.k sub dv hn)
    exact PySem.W.kia_one Z I.kIn p ek hx fun tk => ⟨.bl b, H, I.tok tk, rfl, q⟩
theorem de_isi (hC : Ct X C) {b : Expr} (cl : ClsD) {v : V} {cv : Value} (hcl : ∀ B fI, (∀ c ∈ C.b.errs, ∃ T, C.b.mg c = some (.ref T) ∧ ErrT C.b.K B fI c T) → ClsIs C B fI cl cv) (hrv : ∀ u, RelV v u → u = cv)
    (he : PE X e (tE C W f)) (hb : PE X b (tC v)) (hg : Gl X "isinstance") (hm : X.mg "isinstance" = none) (hs : starEach (e :: [b]) X.env = (false, eval e X.env) :: starEach [b] X.env := by rfl) (hs2 : starEach (b :: []) X.env = (false, eval b X.env) :: starEach [] X.env := by rfl)
    (hpl : (backTo pos (starEach [b] X.env)).any (·.1) = false := by rfl) : PE X (.Call (.Name "isinstance" p) [e, b] [] pos) (tE C W (e1 f (isiF cl))) := by
  obtain ⟨B, fI, cc, cda, TB, IB, TE⟩ := hC.err.ex
  refine PE.st (pe_callB (call_isD hC IB TE cl cv) hg hm (by kernel_rfl) (pa_cons he (pa_cons hb pa_nil hs2) hs) (by decide) (by decide) hs hpl) fun σ H Q h => ?_
  obtain ⟨Y, G, ρ, E, q⟩ := h
  refine seq1 (C := C) Post.lk E q fun G1 H1 ρ1 o1 v1 s1 pl1 E1 od1 p1 => ?_
  unfold fin1 at p1
  cases l : look o1 ρ1 with
  | none => rw [l] at p1; exact p1.elim
  | some d =>
    rw [l] at p1
    dsimp only at p1
    cases hi : isiB cl d with
    | none => unfold isiF at p1; rw [hi] at p1; exact p1.elim
    | some b =>
      unfold isiF at p1
      rw [hi] at p1
      exact ⟨v1, v, G1, d, b, rfl, hrv, E1.sub, look_ok E1 od1 l, hcl B fI TE, hi, p1 G1 H1 _ Sub.rfl E1 (by unfold OD den; rfl)⟩
end
end DL

set_option Elab.async false
set_option linter.all false
set_option maxRecDepth 100000
set_option maxHeartbeats 1000000
/-! The data layer: a cell that is being filled; repr; displays of dicts; list(range). -/
namespace DL
open PySem PySem.Spec L2
open PyProof.Rows hiding St

/-! ### a cell that nobody else reaches -/
def Gr.prot (Y : Gr) (p : Addr) (o : HO) : Gr := { Y with H0 := upd Y.H0 p o }
/-- nothing of the frame's ground stands at p -/
structure Off (Y : Gr) (p : Addr) : Prop where
  h0 : Y.H0 p = none
  g0 : Y.G0 p = none
  b : ∀ i, (i, p) ∉ Y.B
section
variable {C : Cn} {Y : Gr} {G : Hp} {σ : St} {H : Hp} {ρ : DEnv} {p : Addr} {o o' : HO}
theorem ED.off (E : ED C Y G σ H ρ) (h : H p = none) : Off Y p := by
  refine ⟨E.h0 h, ?_, fun i hb => ?_⟩
  · cases e : Y.G0 p with
    | none => rfl
    | some o => have := E.g0 _ _ e; rw [E.gn h] at this; cases this
  · obtain ⟨h1, hn, b, d, h2, hc, h3⟩ := E.bor i p hb
    rcases h3 with rfl | ⟨u, h3⟩
    · obtain ⟨q, q1, q2, q3, q4⟩ := E.own i d h2
      rw [h1] at q1
      cases q1
      obtain ⟨u, hu⟩ := q3.some
      rw [h] at hu; cases hu
    · rw [E.gn h] at h3; cases h3
theorem ED.prot (E : ED C Y G σ H ρ) (h : H p = none) : ED C (Y.prot p o) G σ (upd H p o) ρ := by
  have L := E.laid (o := o) h
  refine ⟨L.sub, L.frz, fun i d e => ?_, L.ap, L.len, L.bor, fun a u e hb => ?_, fun a u e => ?_, L.g0⟩
  · obtain ⟨q, q1, q2, q3, q4⟩ := L.own i d e
    refine ⟨q, q1, q2, q3, ?_⟩
    rcases q4 with q4 | q4
    · by_cases hq : q = p
      · obtain ⟨q', q1', _, q3', _⟩ := E.own i d e
        rw [q1] at q1'; cases q1'
        obtain ⟨u, hu⟩ := q3'.some
        rw [hq, h] at hu; cases hu
      · exact .inl (by show upd Y.H0 p o q = none; rw [upd_ne hq]; exact q4)
    · exact .inr q4
  · have e' : upd Y.H0 p o a = some u := e
    by_cases ha : a = p
    · subst ha; rw [upd_same] at e' ⊢; exact e'
    · rw [upd_ne ha] at e'
      exact L.old a u e' hb
  · have : a ≠ p := fun z => by rw [z, E.gn h] at e; cases e
    rcases E.fz a u e with x | x | x
    · exact .inl (by show upd Y.H0 p o a = none; rw [upd_ne this]; exact x)
    · exact .inr (.inl x)
    · exact .inr (.inr x)
/-- what is known of the cell meanwhile -/
theorem ED.cell (E : ED C (Y.prot p o) G σ H ρ) (f : Off Y p) : H p = some o ∧ G p = none ∧ ∀ (i : Nat) (e : D), ρ[i]? = some (some (true, e)) → σ[i]? ≠ some (some (.ref p)) := by
  refine ⟨E.old p o (by show upd Y.H0 p o p = _; rw [upd_same]) f.b, ?_, fun i e h1 h2 => ?_⟩
  · cases e : G p with
    | none => rfl
    | some u =>
      rcases E.fz p u e with x | x | ⟨i, x⟩
      · have x' : upd Y.H0 p o p = none := x
        rw [upd_same] at x'; cases x'
      · have x' : Y.G0 p = some u := x
        rw [f.g0] at x'; cases x'
      · exact absurd x (f.b i)
  · obtain ⟨q, q1, q2, q3, q4⟩ := E.own i e h1
    rw [h2] at q1; cases q1
    rcases q4 with q4 | q4
    · have x' : upd Y.H0 p o p = none := q4
      rw [upd_same] at x'; cases x'
    · exact f.b i q4
/-- the cell is written -/
theorem ED.setC (E : ED C (Y.prot p o) G σ H ρ) (f : Off Y p) : ED C (Y.prot p o') G σ (upd H p o') ρ := by
  obtain ⟨c1, c2, c3⟩ := E.cell f
  refine ⟨fun a u e => ?_, E.frz, fun i d e => ?_, E.ap, E.len, E.bor, fun a u e hb => ?_, fun a u e => ?_, E.g0⟩
  · have : a ≠ p := fun z => by rw [z, c2] at e; cases e
    rw [upd_ne this]; exact E.sub a u e
  · obtain ⟨q, q1, q2, q3, q4⟩ := E.own i d e
    have hq : q ≠ p := fun z => c3 i d e (z ▸ q1)
    refine ⟨q, q1, q2, q3.mono Sub.rfl (upd_ne hq), ?_⟩
    rcases q4 with q4 | q4
    · have x' : upd Y.H0 p o q = none := q4
      rw [upd_ne hq] at x'
      exact .inl (by show upd Y.H0 p o' q = none; rw [upd_ne hq]; exact x')
    · exact .inr q4
  · have e' : upd Y.H0 p o' a = some u := e
    by_cases ha : a = p
    · subst ha; rw [upd_same] at e' ⊢; exact e'
    · rw [upd_ne ha] at e' ⊢
      exact E.old a u (by show upd Y.H0 p o a = some u; rw [upd_ne ha]; exact e') hb
  · rcases E.fz a u e with x | x | x
    · have x' : upd Y.H0 p o a = none := x
      by_cases ha : a = p
      · subst ha; rw [upd_same] at x'; cases x'
      · rw [upd_ne ha] at x'
        exact .inl (by show upd Y.H0 p o' a = none; rw [upd_ne ha]; exact x')
    · exact .inr (.inl x)
    · exact .inr (.inr x)
/-- it is let go -/
theorem ED.unprot (E : ED C (Y.prot p o) G σ H ρ) (f : Off Y p) : ED C Y G σ H ρ := by
  obtain ⟨c1, c2, c3⟩ := E.cell f
  refine ⟨E.sub, E.frz, fun i d e => ?_, E.ap, E.len, E.bor, fun a u e hb => ?_, fun a u e => ?_, E.g0⟩
  · obtain ⟨q, q1, q2, q3, q4⟩ := E.own i d e
    have hq : q ≠ p := fun z => c3 i d e (z ▸ q1)
    refine ⟨q, q1, q2, q3, ?_⟩
    rcases q4 with q4 | q4
    · have x' : upd Y.H0 p o q = none := q4
      rw [upd_ne hq] at x'
      exact .inl x'
    · exact .inr q4
  · have ha : a ≠ p := fun z => by rw [z, f.h0] at e; cases e
    exact E.old a u (by show upd Y.H0 p o a = some u; rw [upd_ne ha]; exact e) hb
  · rcases E.fz a u e with x | x | x
    · have x' : upd Y.H0 p o a = none := x
      by_cases ha : a = p
      · subst ha; rw [upd_same] at x'; cases x'
      · rw [upd_ne ha] at x'
        exact .inl x'
    · exact .inr (.inl x)
    · exact .inr (.inr x)
/-- .. as a fresh thing that is owned -/
theorem ED.cellO (E : ED C (Y.prot p o) G σ H ρ) (f : Off Y p) {d : D} (h : ownAt C.b G H p d) : ED C Y G σ H ρ ∧ OD C Y G σ H ρ (.own d) (.ref p) := by
  obtain ⟨c1, c2, c3⟩ := E.cell f
  exact ⟨E.unprot f, p, rfl, c2, h, f.h0, c3⟩
end

/-! ### repr -/
def reprF : List D → Option Opd
  | [d] => match toPy d with
    | some p => if p.showable = true ∧ p.shown.length ≤ 16777216 ∧ p.depth ≤ 40 then some (.val (.str p.shown)) else none
    | none => none
  | _ => none
section
variable {X : Cx} {C : Cn} {pins : List (Addr × Obj)} {σ : St} {G H : Hp} {s : Shared}
theorem ne_sys (hC : Ct X C) (I : Inv X pins σ H s) {a : Addr} {o : HO} (h : H a = some o) : a ≠ sysModules := fun z => by
  obtain ⟨u, hu⟩ := hC.sm
  have := (I.bs _ _ hu).2
  rw [← z, h] at this; cases this
theorem rd_len {v : V} {u : Value} : True := trivial
theorem key_reads {h : Heap} {k : Key} {v : Value} (e : keyIs k v = true) : ∃ as, Reads h v (match k with | .inl i => .int i | .inr s => .str s) as ∧ sysModules ∉ as := by
  rcases keyIs_shape e with ⟨i, t, rfl, rfl⟩ | ⟨x, t, rfl, rfl⟩
  · exact ⟨[], .int i t, by simp⟩
  · exact ⟨[], .str x t, by simp⟩
mutual
theorem reads_of (hC : Ct X C) (I : Inv X pins σ H s) (sub : Sub G H) : ∀ (d : D) (v : V) (u : Value) (p : PyData), den C.b G d v → toPy d = some p → RelV v u → ∃ as, Reads s.heap u p as ∧ sysModules ∉ as
  | .non, v, u, p, h, e, r => by
    unfold den at h; unfold toPy at e; cases e; subst h; cases r; exact ⟨[], .none, by simp⟩
  | .bl b, v, u, p, h, e, r => by
    unfold den at h; unfold toPy at e; cases e; subst h; cases r; exact ⟨[], .bool b, by simp⟩
  | .int b, v, u, p, h, e, r => by
    unfold den at h; unfold toPy at e; cases e; subst h; obtain ⟨t, rfl⟩ := r; exact ⟨[], .int b t, by simp⟩
  | .str b, v, u, p, h, e, r => by
    unfold den at h; unfold toPy at e; cases e; subst h; obtain ⟨t, rfl⟩ := r; exact ⟨[], .str b t, by simp⟩
  | .lst xs, v, u, p, h, e, r => by
    unfold den at h
    unfold toPy at e
    obtain ⟨a, vs, rfl, h1, h2⟩ := h
    obtain rfl : u = Value.ref a := r
    cases e1 : toPyL xs with
    | none => rw [e1] at e; cases e
    | some ps =>
      rw [e1] at e
      cases e
      obtain ⟨z, its, n, rv, ho⟩ : ObjOk X.prog X.w H s.heap a (.lst vs) := I.hok a _ (sub _ _ h1)
      obtain ⟨as, ra, na⟩ := readsL_of hC I sub xs vs its ps h2 e1 rv
      refine ⟨a :: as, .list ho rfl rfl (by simpa using ra), fun hm => ?_⟩
      rcases List.mem_cons.mp hm with e | hm
      · exact ne_sys hC I (sub _ _ h1) e.symm
      · exact na hm
  | .tup xs, v, u, p, h, e, r => by
    unfold den at h
    unfold toPy at e
    obtain ⟨a, vs, rfl, h1, h2⟩ := h
    obtain rfl : u = Value.ref a := r
    cases e1 : toPyL xs with
    | none => rw [e1] at e; cases e
    | some ps =>
      rw [e1] at e
      cases e
      obtain ⟨its, rv, ⟨o, ho, hc, n, hd⟩, hz⟩ := I.tuple (by rw [← hC.k]; exact sub.sqT h1)
      obtain ⟨as, ra, na⟩ := readsL_of hC I sub xs vs its ps h2 e1 rv
      exact ⟨as, .tuple ho hc hd (by simpa using ra), na⟩
  | .dK kvs, v, u, p, h, e, r => by
    unfold den at h
    unfold toPy at e
    obtain ⟨a, ws, rfl, h1, h2⟩ := h
    obtain rfl : u = Value.ref a := r
    cases e1 : toPyK kvs with
    | none => rw [e1] at e; cases e
    | some ps =>
      rw [e1] at e
      cases e
      obtain ⟨z, ns, vs, rv, o, es, ep, ho, hx, hd, hk, hp, hnd⟩ : ObjOk X.prog X.w H s.heap a (.dK ws) := I.hok a _ (sub _ _ h1)
      obtain ⟨as, bs, ra, rb, na, nb⟩ := readsK_of hC I sub kvs ws vs es.toList ps h2 e1 rv hp
      refine ⟨a :: as ++ bs, .dict ho hx.1 hd ra rb, fun hm => ?_⟩
      rcases List.mem_append.mp hm with hm | hm
      · rcases List.mem_cons.mp hm with e | hm
        · exact ne_sys hC I (sub _ _ h1) e.symm
        · exact na hm
      · exact nb hm
  | .exc _ _, v, u, p, h, e, r => by unfold toPy at e; cases e
  | .scr _, v, u, p, h, e, r => by unfold toPy at e; cases e
theorem readsL_of (hC : Ct X C) (I : Inv X pins σ H s) (sub : Sub G H) : ∀ (d : List D) (v : List V) (u : List Value) (p : List PyData), denL C.b G d v → toPyL d = some p → Vals v u → ∃ as, ReadsAll s.heap u p as ∧ sysModules ∉ as
  | [], v, u, p, h, e, r => by
    unfold denL at h; unfold toPyL at e; cases e; subst h; cases r; exact ⟨[], .nil, by simp⟩
  | d :: ds, v, u, p, h, e, r => by
    unfold denL at h
    unfold toPyL at e
    obtain ⟨w, t, rfl, h1, h2⟩ := h
    cases r with
    | cons r1 r2 =>
      cases e1 : toPy d with
      | none => rw [e1] at e; cases e
      | some q =>
        cases e2 : toPyL ds with
        | none => rw [e1, e2] at e; cases e
        | some qs =>
          rw [e1, e2] at e
          cases e
          obtain ⟨as, a1, a2⟩ := reads_of hC I sub d w _ q h1 e1 r1
          obtain ⟨bs, b1, b2⟩ := readsL_of hC I sub ds t _ qs h2 e2 r2
          exact ⟨as ++ bs, .cons a1 b1, fun hm => (List.mem_append.mp hm).elim a2 b2⟩
theorem readsK_of (hC : Ct X C) (I : Inv X pins σ H s) (sub : Sub G H) : ∀ (d : List (Key × D)) (v : List (Key × V)) (u : List (Key × Value)) (es : List DictEntry) (p : List (PyData × PyData)), denK C.b G d v → toPyK d = some p → KV v u → PySem.Pairs (mixKind X.prog X.w) es u →
    ∃ as bs, ReadsAll s.heap (es.map (·.key)) (p.map (·.1)) as ∧ ReadsAll s.heap (es.map (·.val)) (p.map (·.2)) bs ∧ sysModules ∉ as ∧ sysModules ∉ bs
  | [], v, u, es, p, h, e, r, pr => by
    unfold denK at h; unfold toPyK at e; cases e; subst h; cases r; cases pr; exact ⟨[], [], .nil, .nil, by simp, by simp⟩
  | (k, d) :: ds, v, u, es, p, h, e, r, pr => by
    unfold denK at h
    unfold toPyK at e
    obtain ⟨w, t, rfl, h1, h2⟩ := h
    cases r with
    | cons r1 r2 =>
      rename_i q us
      obtain ⟨k', v'⟩ := q
      obtain ⟨rk, r1⟩ := r1
      dsimp only at rk r1
      subst rk
      cases pr with
      | cons p1 p2 p3 =>
        dsimp only at p1 p2
        cases e1 : toPy d with
        | none => rw [e1] at e; cases e
        | some q =>
          cases e2 : toPyK ds with
          | none => rw [e1, e2] at e; cases e
          | some qs =>
            rw [e1, e2] at e
            cases e
            obtain ⟨as, a1, a2⟩ := reads_of hC I sub d w _ q h1 e1 r1
            obtain ⟨bs, cs, b1, c1, b2, c2⟩ := readsK_of hC I sub ds t _ _ qs h2 e2 r2 p3
            obtain ⟨ks, k1, k2⟩ := key_reads (h := s.heap) p1
            refine ⟨ks ++ bs, as ++ cs, .cons k1 b1, ?_, fun hm => (List.mem_append.mp hm).elim k2 b2, fun hm => (List.mem_append.mp hm).elim a2 c2⟩
            have a1' := a1
            rw [← p2] at a1'
            exact .cons a1' c1
end
end
def rRepr (C : Cn) : List V → Hp → VK → Prop := fun xs H Q => ∃ x G d p, xs = [x] ∧ Sub G H ∧ DV C.b G H d x ∧ toPy d = some p ∧ p.showable = true ∧ p.shown.length ≤ 16777216 ∧ p.depth ≤ 40 ∧ Q (.str p.shown) H
theorem dv_reads {X : Cx} {C : Cn} {pins : List (Addr × Obj)} {σ : St} {G H : Hp} {s : Shared} (hC : Ct X C) (I : Inv X pins σ H s) (sub : Sub G H) {d : D} {v : V} {u : Value} {p : PyData} (h : DV C.b G H d v) (e : toPy d = some p) (r : RelV v u) : ∃ as, Reads s.heap u p as ∧ sysModules ∉ as := by
  rcases h with h | ⟨a, rfl, h⟩
  · exact reads_of hC I sub d v u p h e r
  · -- an owned thing reads as a frozen one would
    cases d <;> simp only [ownAt] at h
    · obtain ⟨vs, h1, h2⟩ := h
      rename_i xs
      have sH : Sub G H := sub
      obtain rfl : u = Value.ref a := r
      unfold toPy at e
      cases e1 : toPyL xs with
      | none => rw [e1] at e; cases e
      | some ps =>
        rw [e1] at e
        cases e
        obtain ⟨z, its, n, rv, ho⟩ : ObjOk X.prog X.w H s.heap a (.lst vs) := I.hok a _ h1
        obtain ⟨as, ra, na⟩ := readsL_of hC I sub xs vs its ps h2 e1 rv
        refine ⟨a :: as, .list ho rfl rfl (by simpa using ra), fun hm => ?_⟩
        rcases List.mem_cons.mp hm with e | hm
        · exact ne_sys hC I h1 e.symm
        · exact na hm
    · obtain ⟨ws, h1, h2⟩ := h
      rename_i kvs
      obtain rfl : u = Value.ref a := r
      unfold toPy at e
      cases e1 : toPyK kvs with
      | none => rw [e1] at e; cases e
      | some ps =>
        rw [e1] at e
        cases e
        obtain ⟨z, ns, vs, rv, o, es, ep, ho, hx, hd, hk, hp, hnd⟩ : ObjOk X.prog X.w H s.heap a (.dK ws) := I.hok a _ h1
        obtain ⟨as, bs, ra, rb, na, nb⟩ := readsK_of hC I sub kvs ws vs es.toList ps h2 e1 rv hp
        refine ⟨a :: as ++ bs, .dict ho hx.1 hd ra rb, fun hm => ?_⟩
        rcases List.mem_append.mp hm with hm | hm
        · rcases List.mem_cons.mp hm with e | hm
          · exact ne_sys hC I h1 e.symm
          · exact na hm
        · exact nb hm
theorem call_repr {X : Cx} {C : Cn} {k : Nat} (hC : Ct X C) (hr : Room k X.A) : CallR X (.builtin "repr") (rRepr C) := by
  intro pins s σ H xs us Q I r h
  obtain ⟨x, G, d, p, rfl, sub, dv, e, hs, hz, hdp, q⟩ := h
  obtain ⟨u, rfl, r1⟩ := vals1 r
  obtain ⟨as, rd, na⟩ := dv_reads hC I sub dv e r1
  have hz' : p.shown.length ≤ sizeLine := by rw [sz_eq]; exact hz
  have un := hr.units
  cases rd with
  | none => exact PySem.P.repr_of_none ⟨.str _, H, I.tok _, ⟨_, rfl⟩, q⟩
  | bool b => exact PySem.P.repr_of_bool ⟨.str _, H, I.tok _, ⟨_, by simp only [PyData.shown]; cases b <;> rfl⟩, q⟩
  | int i t => exact PySem.P.repr_of_int (of_decide_eq_true hs) ⟨.str _, H, I.tok _, ⟨_, rfl⟩, q⟩
  | str z t => exact PySem.P.repr_of_str ⟨.str _, H, I.tok _, ⟨_, rfl⟩, q⟩ hz'
  | list h1 h2 h3 h4 =>
    exact repr_of_reads' (.list h1 h2 h3 h4) hs (fun _ => na) hC.gd (by omega) (fun _ _ z => z) (fun h' u tk k' => ⟨.str _, H, I.kept k', ⟨_, rfl⟩, q⟩) hz'
  | tuple h1 h2 h3 h4 =>
    exact repr_of_reads' (.tuple h1 h2 h3 h4) hs (fun _ => na) hC.gd (by omega) (fun _ _ z => z) (fun h' u tk k' => ⟨.str _, H, I.kept k', ⟨_, rfl⟩, q⟩) hz'
  | dict h1 h2 h3 h4 h5 =>
    exact repr_of_reads' (.dict h1 h2 h3 h4 h5) hs (fun _ => na) hC.gd (by omega) (fun _ _ z => z) (fun h' u tk k' => ⟨.str _, H, I.kept k', ⟨_, rfl⟩, q⟩) hz'
theorem reprD {C : Cn} : CallD C reprF (rRepr C) := by
  intro Y G σ H ρ Q xs ds o E p hf af
  unfold reprF at hf
  split at hf
  · rename_i d
    cases e : toPy d with
    | none => rw [e] at hf; cases hf
    | some q =>
      rw [e] at hf
      dsimp only at hf
      split at hf
      · rename_i hz
        cases hf
        obtain ⟨v, rfl, h⟩ := pd1 p
        exact ⟨v, G, d, q, rfl, E.sub, h, e, hz.1, hz.2.1, hz.2.2, af.str E⟩
      · cases hf
  · cases hf
end DL

set_option Elab.async false
set_option linter.all false
set_option maxRecDepth 100000
set_option maxHeartbeats 1000000
/-! The data layer: stores, targets, simple statements, methods of owned lists. -/
namespace DL
open PySem PySem.Spec L2
open PyProof.Rows hiding St

/-! ### stores -/
/-- slot i may be written: it is no parameter, or holds nothing that could have been borrowed -/
def okSet (np i : Nat) (ρ : DEnv) : Bool := decide (np ≤ i) || match ρ[i]? with
  | some (some (_, d)) => !isCont d
  | _ => true
section
variable {C : Cn} {Y : Gr} {G : Hp} {σ : St} {H : Hp} {ρ ρ' : DEnv} {p : Addr} {v : V} {d : D} {i : Nat}
theorem ED.nob (E : ED C Y G σ H ρ) (ok : okSet C.np i ρ = true) : ∀ p, (i, p) ∉ Y.B := fun p hb => by
  obtain ⟨h1, hn, b, d, h2, hc, h3⟩ := E.bor i p hb
  unfold okSet at ok
  rw [h2, decide_eq_false (by omega)] at ok
  simp [hc] at ok
theorem setσ {σ : St} {i j : Nat} {x : Option V} : (σ.set i x)[j]? = if j = i then (if i < σ.length then some x else none) else σ[j]? := by
  by_cases h : j = i
  · subst h
    rw [if_pos rfl]
    by_cases hl : j < σ.length
    · rw [if_pos hl, List.getElem?_set_self hl]
    · rw [if_neg hl, List.getElem?_eq_none (by simpa using hl)]
  · rw [if_neg h, List.getElem?_set_ne (Ne.symm h)]
theorem ED.lt (E : ED C Y G σ H ρ) {x y : Slot} (h : (ρ.set i x)[i]? = some y) : i < σ.length := by
  rw [← E.len]
  by_cases hl : i < ρ.length
  · exact hl
  · rw [List.getElem?_eq_none (by simpa using hl)] at h; cases h
/-- a frozen value is stored -/
theorem ED.putF (E : ED C Y G σ H ρ) (ok : okSet C.np i ρ = true) (hd : den C.b G d v) : ED C Y G (σ.set i (some v)) H (ρ.set i (some (false, d))) := by
  have nb := E.nob ok
  refine ⟨E.sub, fun j e h => ?_, fun j e h => ?_, fun j k e e' q hjk h1 h2 h3 h4 => ?_, by rw [List.length_set, List.length_set]; exact E.len, fun j q hq => ?_, E.old, E.fz, E.g0⟩
  · rcases set_get h with ⟨rfl, q⟩ | ⟨hj, q⟩
    · cases q
      exact ⟨v, by rw [setσ, if_pos rfl, if_pos (E.lt h)], hd⟩
    · obtain ⟨w, w1, w2⟩ := E.frz j e q
      exact ⟨w, by rw [setσ, if_neg hj]; exact w1, w2⟩
  · rcases set_get h with ⟨rfl, q⟩ | ⟨hj, q⟩
    · cases q
    · obtain ⟨r, r1, r2⟩ := E.own j e q
      exact ⟨r, by rw [setσ, if_neg hj]; exact r1, r2⟩
  · rcases set_get h1 with ⟨rfl, q1⟩ | ⟨hj, q1⟩
    · cases q1
    · rcases set_get h2 with ⟨rfl, q2⟩ | ⟨hk, q2⟩
      · cases q2
      · rw [setσ, if_neg hj] at h3
        rw [setσ, if_neg hk] at h4
        exact E.ap j k e e' q hjk q1 q2 h3 h4
  · obtain ⟨h1, hn, b, d', h2, hc, h3⟩ := E.bor j q hq
    have hj : j ≠ i := fun z => nb q (z ▸ hq)
    exact ⟨by rw [setσ, if_neg hj]; exact h1, hn, b, d', by rw [List.getElem?_set_ne (Ne.symm hj)]; exact h2, hc, h3⟩
/-- a fresh thing that is owned is stored -/
theorem ED.putO (E : ED C Y G σ H ρ) (ok : okSet C.np i ρ = true) (gn : G p = none) (o : ownAt C.b G H p d) (h0 : Y.H0 p = none) (nr : ∀ (i : Nat) (e : D), ρ[i]? = some (some (true, e)) → σ[i]? ≠ some (some (.ref p))) :
    ED C Y G (σ.set i (some (.ref p))) H (ρ.set i (some (true, d))) := by
  have nb := E.nob ok
  refine ⟨E.sub, fun j e h => ?_, fun j e h => ?_, fun j k e e' q hjk h1 h2 h3 h4 => ?_, by rw [List.length_set, List.length_set]; exact E.len, fun j q hq => ?_, E.old, E.fz, E.g0⟩
  · rcases set_get h with ⟨rfl, q⟩ | ⟨hj, q⟩
    · cases q
    · obtain ⟨w, w1, w2⟩ := E.frz j e q
      exact ⟨w, by rw [setσ, if_neg hj]; exact w1, w2⟩
  · rcases set_get h with ⟨rfl, q⟩ | ⟨hj, q⟩
    · cases q
      exact ⟨p, by rw [setσ, if_pos rfl, if_pos (E.lt h)], gn, o, .inl h0⟩
    · obtain ⟨r, r1, r2⟩ := E.own j e q
      exact ⟨r, by rw [setσ, if_neg hj]; exact r1, r2⟩
  · rw [setσ] at h3 h4
    rcases set_get h1 with ⟨rfl, q1⟩ | ⟨hj, q1⟩
    · rcases set_get h2 with ⟨rfl, q2⟩ | ⟨hk, q2⟩
      · exact hjk rfl
      · rw [if_pos rfl, if_pos (E.lt h1)] at h3
        rw [if_neg hk] at h4
        cases h3
        exact nr k e' q2 h4
    · rcases set_get h2 with ⟨rfl, q2⟩ | ⟨hk, q2⟩
      · rw [if_pos rfl, if_pos (E.lt h2)] at h4
        rw [if_neg hj] at h3
        cases h4
        exact nr j e q1 h3
      · rw [if_neg hj] at h3
        rw [if_neg hk] at h4
        exact E.ap j k e e' q hjk q1 q2 h3 h4
  · obtain ⟨h1, hn, b, d', h2, hc, h3⟩ := E.bor j q hq
    have hj : j ≠ i := fun z => nb q (z ▸ hq)
    exact ⟨by rw [setσ, if_neg hj]; exact h1, hn, b, d', by rw [List.getElem?_set_ne (Ne.symm hj)]; exact h2, hc, h3⟩
/-- a slot is forgotten -/
theorem ED.drop (E : ED C Y G σ H ρ) (ok : okSet C.np i ρ = true) (x : Option V) : ED C Y G (σ.set i x) H (ρ.set i none) := by
  have nb := E.nob ok
  have ne : ∀ {j : Nat} {y : Bool × D}, (ρ.set i none)[j]? = some (some y) → j ≠ i ∧ ρ[j]? = some (some y) := fun {j y} h => by
    rcases set_get h with ⟨_, q⟩ | ⟨hj, q⟩
    · cases q
    · exact ⟨hj, q⟩
  refine ⟨E.sub, fun j e h => ?_, fun j e h => ?_, fun j k e e' q hjk h1 h2 h3 h4 => ?_, by rw [List.length_set, List.length_set]; exact E.len, fun j q hq => ?_, E.old, E.fz, E.g0⟩
  · obtain ⟨hj, q⟩ := ne h
    obtain ⟨w, w1, w2⟩ := E.frz j e q
    exact ⟨w, by rw [setσ, if_neg hj]; exact w1, w2⟩
  · obtain ⟨hj, q⟩ := ne h
    obtain ⟨r, r1, r2⟩ := E.own j e q
    exact ⟨r, by rw [setσ, if_neg hj]; exact r1, r2⟩
  · obtain ⟨hj, q1⟩ := ne h1
    obtain ⟨hk, q2⟩ := ne h2
    rw [setσ, if_neg hj] at h3
    rw [setσ, if_neg hk] at h4
    exact E.ap j k e e' q hjk q1 q2 h3 h4
  · obtain ⟨h1, hn, b, d', h2, hc, h3⟩ := E.bor j q hq
    have hj : j ≠ i := fun z => nb q (z ▸ hq)
    exact ⟨by rw [setσ, if_neg hj]; exact h1, hn, b, d', by rw [List.getElem?_set_ne (Ne.symm hj)]; exact h2, hc, h3⟩
/-- .. the value behind it stays -/
theorem ED.drop' (E : ED C Y G σ H ρ) (ok : okSet C.np i ρ = true) : ED C Y G σ H (ρ.set i none) := by
  have h := E.drop ok (σ[i]?.getD none)
  have : σ.set i (σ[i]?.getD none) = σ := by
    apply List.ext_getElem?
    intro j
    rw [setσ]
    by_cases hj : j = i
    · subst hj
      rw [if_pos rfl]
      by_cases hl : j < σ.length
      · rw [if_pos hl, List.getElem?_eq_getElem hl]; rfl
      · rw [if_neg hl, List.getElem?_eq_none (by omega)]
    · rw [if_neg hj]
  rw [this] at h
  exact h
end
/-- what is stored of an operand -/
def rsv (o : Opd) (ρ : DEnv) : Option (Opd × DEnv) := match o with
  | .slot i => (takeO (.slot i) ρ).map fun z => (.val z.1, z.2)
  | o => some (o, ρ)
def asg (np i : Nat) (o : Opd) (ρ : DEnv) : Option DEnv := match o with
  | .val d => if okSet np i ρ then some (ρ.set i (some (false, d))) else none
  | .own d => if okSet np i ρ then some (ρ.set i (some (true, d))) else none
  | .slot _ => none
section
variable {C : Cn} {Y : Gr} {G : Hp} {σ : St} {H : Hp} {ρ ρ' : DEnv} {v : V} {o o' : Opd} {i : Nat}
theorem rsv_ok (E : ED C Y G σ H ρ) (od : OD C Y G σ H ρ o v) (h : rsv o ρ = some (o', ρ')) : ∃ G', Sub G G' ∧ ED C Y G' σ H ρ' ∧ OD C Y G' σ H ρ' o' v := by
  cases o with
  | val d => cases h; exact ⟨G, Sub.rfl, E, od⟩
  | own d => cases h; exact ⟨G, Sub.rfl, E, od⟩
  | slot j =>
    unfold rsv at h
    dsimp only at h
    cases e : takeO (.slot j) ρ with
    | none => rw [e] at h; cases h
    | some z =>
      obtain ⟨d, ρ2⟩ := z
      rw [e] at h
      cases h
      obtain ⟨G', s', E', d'⟩ := takeO_ok E od e
      exact ⟨G', s', E', d'⟩
theorem asg_ok (E : ED C Y G σ H ρ) (od : OD C Y G σ H ρ o v) (h : asg C.np i o ρ = some ρ') : ED C Y G (σ.set i (some v)) H ρ' := by
  cases o with
  | val d =>
    unfold asg at h
    dsimp only at h
    split at h
    · rename_i ok; cases h; exact E.putF ok od
    · cases h
  | own d =>
    unfold asg at h
    dsimp only at h
    split at h
    · rename_i ok
      cases h
      obtain ⟨p, rfl, gn, oa, h0, nr⟩ := od
      exact E.putO ok gn oa h0 nr
    · cases h
  | slot j => cases h
end

/-! ### statements -/
def sSeq (a b : M Fl) : M Fl := fun ρ => (a ρ).bind fun f ρ1 => match f with
  | .nx => b ρ1
  | f => .ok f ρ1
def sNil : M Fl := fun ρ => .ok .nx ρ
def sAsg (np i : Nat) (f : M Opd) : M Fl := fun ρ => (f ρ).bind fun o ρ1 => match rsv o ρ1 with
  | some (o', ρ2) => match asg np i o' ρ2 with
    | some ρ3 => .ok .nx ρ3
    | none => .bad
  | none => .bad
def sExpr (f : M Opd) : M Fl := fun ρ => (f ρ).bind fun _ ρ1 => .ok .nx ρ1
def sIf (t : M Bool) (a b : M Fl) : M Fl := fun ρ => (t ρ).bind fun c ρ1 => if c then a ρ1 else b ρ1
/-- what a def hands back -/
def retO (np : Nat) (o : Opd) (ρ : DEnv) : Option (Opd × DEnv) := match o with
  | .slot i => match ρ[i]? with
    | some (some (true, d)) => if np ≤ i then some (.own d, ρ.set i none) else (takeO (.slot i) ρ).map fun z => (.val z.1, z.2)
    | _ => (takeO (.slot i) ρ).map fun z => (.val z.1, z.2)
  | o => some (o, ρ)
def sRet (np : Nat) (f : M Opd) : M Fl := fun ρ => (f ρ).bind fun o ρ1 => match retO np o ρ1 with
  | some (o', ρ2) => .ok (.rt o') ρ2
  | none => .bad
def sRetN : M Fl := fun ρ => .ok (.rt (.val .non)) ρ
def sPass : M Fl := fun ρ => .ok .nx ρ
def sBrk : M Fl := fun ρ => .ok .bk ρ
def sCont : M Fl := fun ρ => .ok .ct ρ
section
variable {X : Cx} {C : Cn} {W : WX} {e : Expr} {f : M Opd} {t : M Bool} {a b : M Fl} {st : Stmt} {rest as bs : List Stmt} {pos pos' : Pos}
theorem dss_nil : PSs X [] (tS C W sNil) := PSs.st pss_nil fun N σ H h => by
  obtain ⟨Y, G, ρ, E, p⟩ := h
  exact p G σ H Sub.rfl E
/-- a statement, then what follows -/
theorem seqS {Y : Gr} {G : Hp} {σ : St} {H : Hp} {ρ : DEnv} {N : Ends} {k : M Fl} (E : ED C Y G σ H ρ) (p : PostS C W N Y G ((a ρ).bind fun f ρ1 => match f with | .nx => k ρ1 | f => .ok f ρ1)) {S : St → Hp → Prop}
    (h : ∀ G' σ1 H1 ρ1, Sub G G' → ED C Y G' σ1 H1 ρ1 → PostS C W N Y G' (k ρ1) → S σ1 H1) : tS C W a { N with nx := S } σ H := by
  refine ⟨Y, G, ρ, E, ?_⟩
  cases hf : a ρ with
  | bad => rw [hf] at p; exact p
  | exc c d ρ1 => rw [hf] at p; exact p
  | ok fl ρ1 =>
    rw [hf] at p
    cases fl with
    | nx => exact fun G' σ' H' s E' => h G' σ' H' ρ1 s E' (p.mono s)
    | bk => exact p
    | ct => exact p
    | rt o => exact p
theorem dss_cons (h1 : PS X st (tS C W a)) (h2 : PSs X rest (tS C W b)) : PSs X (st :: rest) (tS C W (sSeq a b)) := PSs.st (pss_cons h1 h2) fun N σ H h => by
  obtain ⟨Y, G, ρ, E, p⟩ := h
  exact seqS E p fun G' σ1 H1 ρ1 s E1 p1 => ⟨Y, G', ρ1, E1, p1⟩
theorem dss_one (h1 : PS X st (tS C W a)) : PSs X [st] (tS C W a) := pss_one h1
theorem ds_set {i : Nat} {x : Str} (hN : X.N.Nodup) (hi : X.N[i]? = some x) (hx : Loc X.env.scope x) (he : PE X e (tE C W f)) (hs : swapsWith e (some (.Name x pos')) pos.line X.env = pure false := by rfl) (hf : X.fn x = true ∨ X.env.scope.names.lookup x = some .local := by first | exact .inl rfl | exact .inr rfl | assumption) :
    PS X (.Assign [.Name x pos'] e pos) (tS C W (sAsg C.np i f)) := PS.st (ps_set hN hi hx he hs hf) fun N σ H h => by
  obtain ⟨Y, G, ρ, E, p⟩ := h
  refine seq0 (C := C) (PostS.lk (σ := σ)) E p fun G1 H1 ρ1 o v s1 E1 od p1 => ?_
  cases e1 : rsv o ρ1 with
  | none => rw [e1] at p1; exact p1.elim
  | some z =>
    obtain ⟨o', ρ2⟩ := z
    rw [e1] at p1
    obtain ⟨G2, s2, E2, od2⟩ := rsv_ok E1 od e1
    dsimp only at p1
    cases e2 : asg C.np i o' ρ2 with
    | none => rw [e2] at p1; exact p1.elim
    | some ρ3 =>
      rw [e2] at p1
      exact p1 G2 _ H1 s2 (asg_ok E2 od2 e2)
theorem ds_expr (he : PE X e (tE C W f)) (hs : swapsWith e none pos.line X.env = pure false := by rfl) : PS X (.Expr e pos) (tS C W (sExpr f)) := PS.st (ps_expr he hs) fun N σ H h => by
  obtain ⟨Y, G, ρ, E, p⟩ := h
  refine seq0 (C := C) (PostS.lk (σ := σ)) E p fun G1 H1 ρ1 o v s1 E1 od p1 => ?_
  exact p1 G1 σ H1 Sub.rfl E1
theorem ds_if {c : Expr} (hc : PT X c (tT C W t)) (ha : PSs X as (tS C W a)) (hb : PSs X bs (tS C W b)) : PS X (.If c as bs pos) (tS C W (sIf t a b)) := PS.st (ps_if hc ha hb) fun N σ H h => by
  obtain ⟨Y, G, ρ, E, p⟩ := h
  refine seqT (C := C) (PostS.lk (σ := σ)) E p fun G1 H1 ρ1 c s1 E1 p1 => ?_
  cases c with
  | true => exact ⟨Y, G1, ρ1, E1, p1⟩
  | false => exact ⟨Y, G1, ρ1, E1, p1⟩
theorem ds_pass : PS X (.Pass pos) (tS C W sPass) := PS.st ps_pass fun N σ H h => by
  obtain ⟨Y, G, ρ, E, p⟩ := h
  exact p G σ H Sub.rfl E
theorem ds_break : PS X (.Break pos) (tS C W sBrk) := PS.st ps_break fun N σ H h => by
  obtain ⟨Y, G, ρ, E, p⟩ := h
  exact p G σ H Sub.rfl E
theorem ds_continue : PS X (.Continue pos) (tS C W sCont) := PS.st ps_continue fun N σ H h => by
  obtain ⟨Y, G, ρ, E, p⟩ := h
  exact p G σ H Sub.rfl E
theorem ds_retN : PS X (.Return none pos) (tS C W sRetN) := PS.st ps_retN fun N σ H h => by
  obtain ⟨Y, G, ρ, E, p⟩ := h
  exact p G σ H .non Sub.rfl E (by unfold OD den; rfl)
theorem retO_ok {Y : Gr} {G : Hp} {σ : St} {H : Hp} {ρ ρ' : DEnv} {v : V} {o o' : Opd} (E : ED C Y G σ H ρ) (od : OD C Y G σ H ρ o v) (h : retO C.np o ρ = some (o', ρ')) : ∃ G', Sub G G' ∧ ED C Y G' σ H ρ' ∧ OD C Y G' σ H ρ' o' v := by
  have viaT : ∀ {i : Nat}, o = .slot i → (takeO (.slot i) ρ).map (fun z => ((.val z.1 : Opd), z.2)) = some (o', ρ') → ∃ G', Sub G G' ∧ ED C Y G' σ H ρ' ∧ OD C Y G' σ H ρ' o' v := fun {i} hi h => by
    cases e : takeO (.slot i) ρ with
    | none => rw [e] at h; cases h
    | some z =>
      obtain ⟨d, ρ2⟩ := z
      rw [e] at h
      cases h
      obtain ⟨G', s', E', d'⟩ := takeO_ok E (hi ▸ od) e
      exact ⟨G', s', E', d'⟩
  cases o with
  | val d => cases h; exact ⟨G, Sub.rfl, E, od⟩
  | own d => cases h; exact ⟨G, Sub.rfl, E, od⟩
  | slot i =>
    unfold retO at h
    dsimp only at h
    split at h
    · rename_i d hr
      split at h
      · rename_i hnp
        cases h
        obtain ⟨p, h1, gn, oa, hB⟩ := E.own i d hr
        have od' : σ[i]? = some (some v) := od
        rw [od'] at h1; cases h1
        have ok : okSet C.np i ρ = true := by unfold okSet; rw [decide_eq_true hnp]; rfl
        refine ⟨G, Sub.rfl, E.drop' ok, p, rfl, gn, oa, hB.elim id fun z => absurd z (E.nob ok p), fun j e' hj hp => ?_⟩
        rcases set_get hj with ⟨_, q⟩ | ⟨hji, q⟩
        · cases q
        · exact E.ap j i e' d p hji q hr hp od'
      · exact viaT rfl h
    · exact viaT rfl h
theorem ds_ret (he : PE X e (tE C W f)) : PS X (.Return (some e) pos) (tS C W (sRet C.np f)) := PS.st (ps_ret he) fun N σ H h => by
  obtain ⟨Y, G, ρ, E, p⟩ := h
  refine seq0 (C := C) (PostS.lk (σ := σ)) E p fun G1 H1 ρ1 o v s1 E1 od p1 => ?_
  cases e1 : retO C.np o ρ1 with
  | none => rw [e1] at p1; exact p1.elim
  | some z =>
    obtain ⟨o', ρ2⟩ := z
    rw [e1] at p1
    obtain ⟨G2, s2, E2, od2⟩ := retO_ok E1 od e1
    exact p1 G2 σ H1 v s2 E2 od2
end

/-! ### targets -/
abbrev Tg := D → DEnv → Option DEnv
def tgN (np i : Nat) : Tg := fun d ρ => if okSet np i ρ then some (ρ.set i (some (false, d))) else none
def tgGo : List Tg → List D → DEnv → Option DEnv
  | [], [], ρ => some ρ
  | t :: ts, d :: ds, ρ => (t d ρ).bind fun ρ1 => tgGo ts ds ρ1
  | _, _, _ => none
def tgT (n : Nat) (ts : List Tg) : Tg := fun d ρ => match d with
  | .tup ds => if ds.length = n then tgGo ts ds ρ else none
  | _ => none
/-- the slots outside is stand as they stood -/
def Keep (is : List Nat) (σ σ' : St) : Prop := σ'.length = σ.length ∧ ∀ i, i ∉ is → σ'[i]? = σ[i]?
theorem Keep.rfl {is : List Nat} {σ : St} : Keep is σ σ := ⟨Eq.refl _, fun _ _ => Eq.refl _⟩
theorem Keep.trans {is js : List Nat} {σ σ' σ'' : St} (a : Keep is σ σ') (b : Keep js σ' σ'') : Keep (is ++ js) σ σ'' := ⟨b.1.trans a.1, fun i hi => (b.2 i (fun z => hi (List.mem_append_right _ z))).trans (a.2 i fun z => hi (List.mem_append_left _ z))⟩
def tG (C : Cn) (is : List Nat) (t : Tg) : TG := fun v σ H Q => ∃ Y G ρ d ρ', ED C Y G σ H ρ ∧ den C.b G d v ∧ t d ρ = some ρ' ∧ ∀ σ', Keep is σ σ' → ED C Y G σ' H ρ' → Q σ' H
def tGs (C : Cn) (is : List Nat) (ts : List Tg) : TGs := fun vs σ H Q => ∃ Y G ρ ds ρ', ED C Y G σ H ρ ∧ denL C.b G ds vs ∧ tgGo ts ds ρ = some ρ' ∧ ∀ σ', Keep is σ σ' → ED C Y G σ' H ρ' → Q σ' H
theorem PG.st {X : Cx} {e : Expr} {t t' : TG} (h : PG X e t) (i : ∀ v σ H Q, t' v σ H Q → t v σ H Q) : PG X e t' := ⟨fun pins s σ H v u Q I r q => h.run pins s σ H v u Q I r (i v σ H Q q)⟩
theorem PGs.st {X : Cx} {e : List Expr} {t t' : TGs} (h : PGs X e t) (i : ∀ v σ H Q, t' v σ H Q → t v σ H Q) : PGs X e t' := ⟨fun pins s σ H v u Q I r q => h.run pins s σ H v u Q I r (i v σ H Q q)⟩
section
variable {X : Cx} {C : Cn} {e : Expr} {es : List Expr} {t : Tg} {ts : List Tg} {is js : List Nat} {pos : Pos}
theorem dg_name {i : Nat} {x : Str} (hN : X.N.Nodup) (hi : X.N[i]? = some x) (hx : Loc X.env.scope x) (hf : X.fn x = true ∨ X.env.scope.names.lookup x = some .local := by first | exact .inl rfl | exact .inr rfl | assumption) : PG X (.Name x pos) (tG C [i] (tgN C.np i)) :=
  PG.st (pg_name hN hi hx hf) fun v σ H Q q => by
    obtain ⟨Y, G, ρ, d, ρ', E, dn, ht, h⟩ := q
    unfold tgN at ht
    split at ht
    · rename_i ok
      cases ht
      exact h _ ⟨List.length_set, fun j hj => by rw [setσ, if_neg (by simpa using hj)]⟩ (E.putF ok dn)
    · cases ht
theorem dgs_nil : PGs X [] (tGs C [] []) := PGs.st pgs_nil fun vs σ H Q q => by
  obtain ⟨Y, G, ρ, ds, ρ', E, dn, ht, h⟩ := q
  cases ds with
  | nil =>
    cases ht
    unfold denL at dn
    exact ⟨dn, h σ Keep.rfl E⟩
  | cons _ _ => cases ht
theorem dgs_cons (h1 : PG X e (tG C is t)) (h2 : PGs X es (tGs C js ts)) (hs : (assignEach (e :: es) X.env).map (·.2) = assign e X.env :: (assignEach es X.env).map (·.2) := by rfl) : PGs X (e :: es) (tGs C (is ++ js) (t :: ts)) :=
  PGs.st (pgs_cons h1 h2 hs) fun vs σ H Q q => by
    obtain ⟨Y, G, ρ, ds, ρ', E, dn, ht, h⟩ := q
    cases ds with
    | nil => cases ht
    | cons d ds =>
      unfold denL at dn
      obtain ⟨v, r, rfl, d1, d2⟩ := dn
      unfold tgGo at ht
      cases e1 : t d ρ with
      | none => rw [e1] at ht; cases ht
      | some ρ1 =>
        rw [e1] at ht
        exact ⟨v, r, rfl, Y, G, ρ, d, ρ1, E, d1, e1, fun σ1 k1 E1 => ⟨Y, G, ρ1, ds, ρ', E1, d2, ht, fun σ2 k2 E2 => h σ2 (k1.trans k2) E2⟩⟩
theorem dg_tup {k : Nat} {n : Nat} (hK : C.b.K = X.K) (hc : X.calm = true) (h : PGs X es (tGs C is ts)) (hn : (assignEach es X.env).length = n := by rfl) (hst : (assignEach es X.env).findIdx? (·.1) = none := by rfl) : PG X (.Tuple es k pos) (tG C is (tgT n ts)) :=
  PG.st (pg_tup hc h hn hst) fun v σ H Q q => by
    obtain ⟨Y, G, ρ, d, ρ', E, dn, ht, hh⟩ := q
    unfold tgT at ht
    split at ht
    · rename_i ds
      split at ht
      · rename_i hl
        unfold den at dn
        obtain ⟨a, vs, rfl, h1, h2⟩ := dn
        exact ⟨a, vs, rfl, by rw [← hK]; exact E.sub.sqT h1, by rw [← h2.len]; exact hl, Y, G, ρ, ds, ρ', E, h2, ht, hh⟩
      · cases ht
    · cases ht
end
/-- target = e -/
def sAsgT (t : Tg) (f : M Opd) : M Fl := fun ρ => (f ρ).bind fun o ρ1 => match takeO o ρ1 with
  | some (d, ρ2) => match t d ρ2 with
    | some ρ3 => .ok .nx ρ3
    | none => .bad
  | none => .bad
theorem ds_asg {X : Cx} {C : Cn} {W : WX} {tg e : Expr} {f : M Opd} {t : Tg} {is : List Nat} {pos : Pos} (he : PE X e (tE C W f)) (hg : PG X tg (tG C is t)) (hs : swapsWithSole [tg] e pos.line X.env = pure false := by rfl) (hw : swappedStores [tg] e X.env = pure none := by rfl)
    (h1 : (assignEach [tg] X.env).map (·.2) = [assign tg X.env] := by rfl) : PS X (.Assign [tg] e pos) (tS C W (sAsgT t f)) := PS.st (ps_asg he hg hs hw h1) fun N σ H h => by
  obtain ⟨Y, G, ρ, E, p⟩ := h
  refine seq0 (C := C) (PostS.lk (σ := σ)) E p fun G1 H1 ρ1 o v s1 E1 od p1 => ?_
  cases e1 : takeO o ρ1 with
  | none => rw [e1] at p1; exact p1.elim
  | some z =>
    obtain ⟨d, ρ2⟩ := z
    rw [e1] at p1
    obtain ⟨G2, s2, E2, dn⟩ := takeO_ok E1 od e1
    dsimp only at p1
    cases e2 : t d ρ2 with
    | none => rw [e2] at p1; exact p1.elim
    | some ρ3 =>
      rw [e2] at p1
      exact ⟨Y, G2, ρ2, d, ρ3, E2, dn, e2, fun σ' _ E' => p1 G2 σ' H1 s2 E'⟩
end DL

set_option Elab.async false
set_option linter.all false
set_option maxRecDepth 100000
set_option maxHeartbeats 1000000
/-! The data layer: what is walked, for, while, list comprehensions. -/
namespace DL
open PySem PySem.Spec L2
open PyProof.Rows hiding St

/-- an iterator that yields the data ds, whatever the frame does -/
structure ItD (C : Cn) (G : Hp) (ds : List D) (J : It) : Prop where
  go : ∀ i H, Sub G H → i < ds.length → J.go i H
  yld : ∀ i x H H', Sub G H → i < ds.length → J.yld i H x H' → ∃ d, ds[i]? = some d ∧ ∀ (Y : Gr) (σ : St) (ρ : DEnv) (G1 : Hp), Sub G G1 → ED C Y G1 σ H ρ → ∃ G2, Sub G1 G2 ∧ ED C Y G2 σ H' ρ ∧ den C.b G2 d x
  stop : ∀ i H, Sub G H → ds.length ≤ i → J.stop i H
theorem ItD.mono {C : Cn} {G G' : Hp} {ds : List D} {J : It} (h : ItD C G ds J) (s : Sub G G') : ItD C G' ds J :=
  ⟨fun i H q => h.go i H (s.trans q), fun i x H H' q hi hy => by
    obtain ⟨d, e, k⟩ := h.yld i x H H' (s.trans q) hi hy
    exact ⟨d, e, fun Y σ ρ G1 s1 => k Y σ ρ G1 (s.trans s1)⟩, fun i H q => h.stop i H (s.trans q)⟩
def PostI (C : Cn) (W : WX) (S : It → Hp → Prop) (Y : Gr) (G : Hp) (σ : St) : R (List D) → Prop
  | .ok ds ρ => ∀ G' H J, Sub G G' → ED C Y G' σ H ρ → ItD C G' ds J → S J H
  | .exc c d ρ => ∀ T dx G' H, C.b.mg c = some (.ref T) → Sub G G' → ED C Y G' σ H ρ → XD C.b G' H dx d → W (.ref T) (some dx) σ H
  | .bad => False
def tI (C : Cn) (W : WX) (f : M (List D)) : TI := fun σ H S => ∃ Y G ρ, ED C Y G σ H ρ ∧ PostI C W S Y G σ (f ρ)
theorem PostI.mono {C : Cn} {W : WX} {Y : Gr} {G G' : Hp} {σ : St} {S : It → Hp → Prop} (h : Sub G G') : ∀ {r : R (List D)}, PostI C W S Y G σ r → PostI C W S Y G' σ r
  | .ok ds ρ, p => fun G2 H v s => p G2 H v (h.trans s)
  | .exc c d ρ, p => fun T dx G2 H hc s => p T dx G2 H hc (h.trans s)
  | .bad, p => p
theorem PostI.lk {C : Cn} {W : WX} {Y : Gr} {σ : St} {S : It → Hp → Prop} : Lk C W Y σ (fun G r => PostI C W S Y G σ r) := ⟨fun s p => p.mono s, fun p => p, fun p => p⟩
theorem PI.st {X : Cx} {tg it : Expr} {t t' : TI} (h : PI X tg it t) (i : ∀ σ H S, t' σ H S → t σ H S) : PI X tg it t' := ⟨fun pins s σ H S I q => h.run pins s σ H S I (i σ H S q)⟩

/-- an operand that is walked is frozen -/
def itO (k : D → Option (List D)) (o : Opd) (ρ : DEnv) : R (List D) := match takeO o ρ with
  | some (d, ρ1) => match k d with
    | some ds => .ok ds ρ1
    | none => .bad
  | none => .bad
def lstK : D → Option (List D)
  | .lst xs => some xs
  | .scr xs => some (xs.map .int)
  | _ => none
def tupK : D → Option (List D)
  | .tup xs => some xs
  | _ => none
def strK : D → Option (List D)
  | .str z => some (z.cps.toList.map fun c => .str ⟨#[c]⟩)
  | _ => none
def iOf (k : D → Option (List D)) (f : M Opd) : M (List D) := fun ρ => (f ρ).bind (itO k)
section
variable {X : Cx} {C : Cn} {W : WX} {tg e : Expr} {f : M Opd} {p pos : Pos}
theorem itO_ok {Y : Gr} {G H : Hp} {σ : St} {ρ : DEnv} {o : Opd} {v : V} {k : D → Option (List D)} (E : ED C Y G σ H ρ) (od : OD C Y G σ H ρ o v) {P : Hp → R (List D) → Prop} (q : P G (itO k o ρ)) (hb : ∀ {G}, P G .bad → False) :
    ∃ d ds ρ1 G1, k d = some ds ∧ Sub G G1 ∧ ED C Y G1 σ H ρ1 ∧ den C.b G1 d v ∧ P G (.ok ds ρ1) := by
  unfold itO at q
  cases e : takeO o ρ with
  | none => rw [e] at q; exact (hb q).elim
  | some z =>
    obtain ⟨d, ρ1⟩ := z
    rw [e] at q
    dsimp only at q
    cases e2 : k d with
    | none => rw [e2] at q; exact (hb q).elim
    | some ds =>
      rw [e2] at q
      obtain ⟨G1, s1, E1, dn⟩ := takeO_ok E od e
      exact ⟨d, ds, ρ1, G1, e2, s1, E1, dn, q⟩
theorem same_yld {Y : Gr} {G1 G2 H : Hp} {σ : St} {ρ : DEnv} {d : D} {x : V} (E : ED C Y G1 σ H ρ) (h : den C.b G1 d x) : ∃ G2, Sub G1 G2 ∧ ED C Y G2 σ H ρ ∧ den C.b G2 d x := ⟨G1, Sub.rfl, E, h⟩
theorem scr_pd (xs : List Int) (G : Hp) : Paired (den C.b G) (xs.map D.int) (xs.map V.int) := by
  induction xs with
  | nil => exact .nil
  | cons x xs ih => exact .cons (by unfold den; rfl) ih
theorem lst_key {K : PySem.W.Frag} (hK : C.b.K = K) {G : Hp} {d : D} {ds : List D} {v : V} (hk : lstK d = some ds) (dn : den C.b G d v) : ∃ a vs, v = .ref a ∧ (∀ H, Sub G H → SqL K H a vs) ∧ Paired (den C.b G) ds vs := by
  subst hK
  cases d with
  | lst xs =>
    cases hk
    unfold den at dn
    obtain ⟨a, vs, rfl, h1, h2⟩ := dn
    exact ⟨a, vs, rfl, fun H s => SqL.of (s _ _ h1), denL_iff.mp h2⟩
  | scr xs =>
    cases hk
    unfold den at dn
    obtain ⟨a, rfl, h1⟩ := dn
    exact ⟨a, _, rfl, fun H s => s.sqL h1, scr_pd xs G⟩
  | _ => cases hk
theorem tup_key {K : PySem.W.Frag} (hK : C.b.K = K) {G : Hp} {d : D} {ds : List D} {v : V} (hk : tupK d = some ds) (dn : den C.b G d v) : ∃ a vs, v = .ref a ∧ (∀ H, Sub G H → SqT K H a vs) ∧ Paired (den C.b G) ds vs := by
  subst hK
  cases d with
  | tup xs =>
    cases hk
    unfold den at dn
    obtain ⟨a, vs, rfl, h1, h2⟩ := dn
    exact ⟨a, vs, rfl, fun H s => s.sqT h1, denL_iff.mp h2⟩
  | _ => cases hk
/-- for .. in a list -/
theorem di_list (hK : C.b.K = X.K) (he : PE X e (tE C W f)) : PI X tg e (tI C W (iOf lstK f)) := PI.st (pi_list he) fun σ H S h => by
  obtain ⟨Y, G, ρ, E, q⟩ := h
  refine seq0 (C := C) PostI.lk E q fun G1 H1 ρ1 o v s1 E1 od p1 => ?_
  obtain ⟨d, ds, ρ2, G2, hk, s2, E2, dn, p2⟩ := itO_ok (P := fun G r => PostI C W S Y G σ r) E1 od p1 (fun z => z)
  obtain ⟨a, vs, rfl, sq, pd⟩ := lst_key hK hk dn
  refine ⟨a, rfl, ⟨vs, sq _ E2.sub⟩, p2 G2 H1 (Itl X.K a) s2 E2 ⟨fun i H s hi => ?_, fun i x H H' s hi hy => ?_, fun i H s hi => ?_⟩⟩
  · have hl := pd.length
    obtain ⟨x, hx⟩ : ∃ x, vs[i]? = some x := ⟨vs[i], List.getElem?_eq_getElem (by omega)⟩
    exact ⟨vs, x, sq _ s, hx⟩
  · obtain ⟨rfl, hx⟩ := hy
    have hx := hx vs (sq _ s)
    obtain ⟨d', h1, h2⟩ := pd_getR pd hx
    exact ⟨d', h1, fun Y' σ' ρ' G3 s3 E3 => ⟨G3, Sub.rfl, E3, den.mono s3 _ _ h2⟩⟩
  · exact ⟨vs, sq _ s, by rw [← pd.length]; exact hi⟩
/-- for .. in a tuple -/
theorem di_tup (hK : C.b.K = X.K) (he : PE X e (tE C W f)) : PI X tg e (tI C W (iOf tupK f)) := PI.st (pi_tup he) fun σ H S h => by
  obtain ⟨Y, G, ρ, E, q⟩ := h
  refine seq0 (C := C) PostI.lk E q fun G1 H1 ρ1 o v s1 E1 od p1 => ?_
  obtain ⟨d, ds, ρ2, G2, hk, s2, E2, dn, p2⟩ := itO_ok (P := fun G r => PostI C W S Y G σ r) E1 od p1 (fun z => z)
  obtain ⟨a, vs, rfl, sq, pd⟩ := tup_key hK hk dn
  refine ⟨a, rfl, ⟨vs, sq _ E2.sub⟩, p2 G2 H1 (Itt X.K a) s2 E2 ⟨fun i H s hi => ?_, fun i x H H' s hi hy => ?_, fun i H s hi => ?_⟩⟩
  · have hl := pd.length
    obtain ⟨x, hx⟩ : ∃ x, vs[i]? = some x := ⟨vs[i], List.getElem?_eq_getElem (by omega)⟩
    exact ⟨vs, x, sq _ s, hx⟩
  · obtain ⟨rfl, hx⟩ := hy
    have hx := hx vs (sq _ s)
    obtain ⟨d', h1, h2⟩ := pd_getR pd hx
    exact ⟨d', h1, fun Y' σ' ρ' G3 s3 E3 => ⟨G3, Sub.rfl, E3, den.mono s3 _ _ h2⟩⟩
  · exact ⟨vs, sq _ s, by rw [← pd.length]; exact hi⟩
/-- for .. in a text -/
theorem di_str (he : PE X e (tE C W f)) : PI X tg e (tI C W (iOf strK f)) := PI.st (pi_str he) fun σ H S h => by
  obtain ⟨Y, G, ρ, E, q⟩ := h
  refine seq0 (C := C) PostI.lk E q fun G1 H1 ρ1 o v s1 E1 od p1 => ?_
  obtain ⟨d, ds, ρ2, G2, hk, s2, E2, dn, p2⟩ := itO_ok (P := fun G r => PostI C W S Y G σ r) E1 od p1 (fun z => z)
  cases d with
  | str z =>
    cases hk
    unfold den at dn
    subst dn
    refine ⟨z, rfl, p2 G2 H1 (Its z) s2 E2 ⟨fun i H s hi => ?_, fun i x H H' s hi hy => ?_, fun i H s hi => ?_⟩⟩
    · show i < z.cps.size
      simpa using hi
    · obtain ⟨rfl, c, hc, rfl⟩ := hy
      refine ⟨.str ⟨#[c]⟩, ?_, fun Y' σ' ρ' G3 s3 E3 => ⟨G3, Sub.rfl, E3, by unfold den; rfl⟩⟩
      rw [List.getElem?_map, Array.getElem?_toList, hc]; rfl
    · show z.cps.size ≤ i
      simpa using hi
  | _ => cases hk
/-- for .. in range(e) -/
def rngL (lo : Int) (n : Nat) : List D := (List.range n).map fun i => .int (lo + (i : Nat))
def iRng (fs : List (M Opd)) : M (List D) := fun ρ => (eA fs ρ).bind fun os ρ1 => match looks os ρ1 with
  | some [.int j] => if -(2 ^ 62) ≤ j ∧ j < 2 ^ 62 then .ok (rngL 0 j.toNat) ρ1 else .bad
  | _ => .bad
def iRng2 (fs : List (M Opd)) : M (List D) := fun ρ => (eA fs ρ).bind fun os ρ1 => match looks os ρ1 with
  | some [.int i, .int j] => if -(2 ^ 62) ≤ i ∧ i < 2 ^ 62 ∧ -(2 ^ 62) ≤ j ∧ j < 2 ^ 62 then .ok (rngL i (j - i).toNat) ρ1 else .bad
  | _ => .bad
theorem itr_d (G : Hp) (lo : Int) (n : Nat) : ItD C G (rngL lo n) (Itr lo n) := by
  have hl : (rngL lo n).length = n := by unfold rngL; simp
  refine ⟨fun i H s hi => by rw [hl] at hi; exact hi, fun i x H H' s hi hy => ?_, fun i H s hi => by rw [hl] at hi; exact hi⟩
  obtain ⟨rfl, rfl⟩ := hy
  rw [hl] at hi
  exact ⟨.int (lo + (i : Nat)), by unfold rngL; rw [List.getElem?_map, List.getElem?_range hi]; rfl, fun Y' σ' ρ' G3 s3 E3 => ⟨G3, Sub.rfl, E3, by unfold den; rfl⟩⟩
theorem di_range {fs : List (M Opd)} (hg : Gl X "range") (hm : X.mg "range" = none) (ha : PA X [e] (tA C W (eA fs))) (hs : starEach [e] X.env = [(false, eval e X.env)] := by rfl) : PI X tg (.Call (.Name "range" p) [e] [] pos) (tI C W (iRng fs)) :=
  PI.st (pi_range1 hg hm ha hs) fun σ H S h => by
    obtain ⟨Y, G, ρ, E, q⟩ := h
    refine seqAp (C := C) PostI.lk E q fun G1 H1 ρ1 os vs s1 pl E1 ods p1 => ?_
    cases l : looks os ρ1 with
    | none => rw [l] at p1; exact p1.elim
    | some ds =>
      have pd := looks_ok E1 ods l
      rw [l] at p1
      split at p1
      · rename_i j hj
        cases hj
        obtain ⟨v, rfl, h⟩ := pd1 pd
        split at p1
        · rename_i hb
          exact ⟨_, by rw [h.int], hb.1, hb.2, p1 G1 H1 _ Sub.rfl E1 (itr_d G1 0 _)⟩
        · exact p1.elim
      · exact p1.elim
theorem di_range2 {e2 : Expr} {fs : List (M Opd)} (hg : Gl X "range") (hm : X.mg "range" = none) (ha : PA X [e, e2] (tA C W (eA fs))) (hs : starEach [e, e2] X.env = [(false, eval e X.env), (false, eval e2 X.env)] := by rfl) (hs2 : starEach [e2] X.env = [(false, eval e2 X.env)] := by rfl) :
    PI X tg (.Call (.Name "range" p) [e, e2] [] pos) (tI C W (iRng2 fs)) :=
  PI.st (pi_range2 hg hm ha hs hs2) fun σ H S h => by
    obtain ⟨Y, G, ρ, E, q⟩ := h
    refine seqAp (C := C) PostI.lk E q fun G1 H1 ρ1 os vs s1 pl E1 ods p1 => ?_
    cases l : looks os ρ1 with
    | none => rw [l] at p1; exact p1.elim
    | some ds =>
      have pd := looks_ok E1 ods l
      rw [l] at p1
      split at p1
      · rename_i i j hj
        cases hj
        obtain ⟨v, w, rfl, h, h'⟩ := pd2 pd
        split at p1
        · rename_i hb
          exact ⟨_, _, by rw [h.int, h'.int], hb, p1 G1 H1 _ Sub.rfl E1 (itr_d G1 _ _)⟩
        · exact p1.elim
      · exact p1.elim
/-- for i, x in enumerate(list) -/
def enumD (lo : Int) (ds : List D) : List D := ds.zipIdx.map fun z => .tup [.int (lo + (z.2 : Nat)), z.1]
def iEn (f : M Opd) : M (List D) := fun ρ => (eA [f] ρ).bind fun os ρ1 => match takeAll os ρ1 with
  | some ([d], ρ2) => match lstK d with
    | some ds => .ok (enumD 0 ds) ρ2
    | none => .bad
  | _ => .bad
theorem di_enum {elts : List Expr} {kk : Nat} {tpos : Pos} (hK : C.b.K = X.K) (hg : Gl X "enumerate") (hm : X.mg "enumerate" = none) (ha : PA X [e] (tA C W (eA [f]))) (hs : starEach [e] X.env = [(false, eval e X.env)] := by rfl) :
    PI X (.Tuple elts kk tpos) (.Call (.Name "enumerate" p) [e] [] pos) (tI C W (iEn f)) :=
  PI.st (pi_enum hg hm ha hs) fun σ H S h => by
    obtain ⟨Y, G, ρ, E, q⟩ := h
    refine seqAp (C := C) PostI.lk E q fun G1 H1 ρ1 os vs s1 pl E1 ods p1 => ?_
    cases t : takeAll os ρ1 with
    | none => rw [t] at p1; exact p1.elim
    | some z =>
      obtain ⟨ds, ρ2⟩ := z
      rw [t] at p1
      obtain ⟨G2, s2, E2, d2⟩ := takeAll_ok E1 pl ods t
      cases ds with
      | nil => exact p1.elim
      | cons d0 ds =>
        cases ds with
        | cons _ _ => exact p1.elim
        | nil =>
          unfold denL at d2
          obtain ⟨v, r, rfl, d3, d4⟩ := d2
          unfold denL at d4
          subst d4
          dsimp only at p1
          cases hk : lstK d0 with
          | none => rw [hk] at p1; exact p1.elim
          | some ds =>
            rw [hk] at p1
            obtain ⟨a, vs, rfl, sq, pd⟩ := lst_key hK hk d3
            have hl := pd.length
            have hle : (enumD 0 ds).length = ds.length := by unfold enumD; simp
            refine ⟨a, vs, rfl, sq _ E2.sub, p1 G2 H1 (Ite X.K a) s2 E2 ⟨fun i H s hi => ?_, fun i x H H' s hi hy => ?_, fun i H s hi => ?_⟩⟩
            · obtain ⟨x, hx⟩ : ∃ x, vs[i]? = some x := ⟨vs[i], List.getElem?_eq_getElem (by omega)⟩
              exact ⟨vs, x, sq _ s, hx⟩
            · obtain ⟨T, x, rfl, hT, rfl, hx⟩ := hy
              have hx := hx vs (sq _ s)
              obtain ⟨d', h1, h2⟩ := pd_getR pd hx
              refine ⟨.tup [.int (0 + (i : Nat)), d'], ?_, fun Y' σ' ρ' G3 s3 E3 => ?_⟩
              · unfold enumD
                rw [List.getElem?_map, List.getElem?_zipIdx, h1]
                simp
              · have sg : Sub G3 (upd G3 T (.tup [.int (i : Nat), x])) := Sub.new (E3.gn hT)
                refine ⟨_, sg, E3.froze hT, ?_⟩
                unfold den
                refine ⟨T, _, rfl, SqT.of upd_same, ?_⟩
                unfold denL denL denL
                exact ⟨_, _, rfl, by unfold den; simp, _, _, rfl, den.mono (s3.trans sg) _ _ h2, rfl⟩
            · exact ⟨vs, sq _ s, by omega⟩
end

/-! ### for -/
def loopF (t : Tg) (body : M Fl) : List D → M Fl
  | [], ρ => .ok .nx ρ
  | d :: ds, ρ => match t d ρ with
    | some ρ1 => (body ρ1).bind fun f ρ2 => match f with
      | .nx => loopF t body ds ρ2
      | .ct => loopF t body ds ρ2
      | .bk => .ok .nx ρ2
      | .rt o => .ok (.rt o) ρ2
    | none => .bad
def sFor (it : M (List D)) (t : Tg) (body : M Fl) : M Fl := fun ρ => (it ρ).bind fun ds ρ1 => loopF t body ds ρ1
theorem seqI {C : Cn} {W : WX} {β : Type} {Y : Gr} {G : Hp} {σ : St} {H : Hp} {ρ : DEnv} {P : Hp → R β → Prop} (L : Lk C W Y σ P) {it : M (List D)} {k : List D → DEnv → R β} (E : ED C Y G σ H ρ) (p : P G ((it ρ).bind k)) {S : It → Hp → Prop}
    (h : ∀ G' H1 ρ1 ds J, Sub G G' → ED C Y G' σ H1 ρ1 → ItD C G' ds J → P G' (k ds ρ1) → S J H1) : tI C W it σ H S := by
  refine ⟨Y, G, ρ, E, ?_⟩
  cases hf : it ρ with
  | bad => rw [hf] at p; exact (L.bad p).elim
  | exc c d ρ1 => rw [hf] at p; exact L.exc p
  | ok o ρ1 =>
    rw [hf] at p
    intro G' H' J s E' it
    exact h G' H' ρ1 o J s E' it (L.mono s p)
theorem ds_for {X : Cx} {C : Cn} {W : WX} {tg it : Expr} {body : List Stmt} {f : M (List D)} {t : Tg} {is : List Nat} {b : M Fl} {pos : Pos} (hp : PassesOwn (model X.prog X.w) X.A X.env X.xe) (hc : X.calm = true) (hi : PI X tg it (tI C W f)) (hg : PG X tg (tG C is t)) (hb : PSs X body (tS C W b))
    (hfs : ∀ x, foldedSetIterable it X.env x = pure x := by intro _; rfl) : PS X (.For tg it body [] pos) (tS C W (sFor f t b)) := PS.st (ps_for hp hc hi hg hb hfs) fun N σ H h => by
  obtain ⟨Y, G, ρ, E, p⟩ := h
  refine seqI (C := C) (PostS.lk (σ := σ)) E p fun G1 H1 ρ1 ds J s1 E1 I1 p1 => ?_
  refine ⟨fun i m σ H => m + i = ds.length ∧ ∃ G2 ρ2, Sub G1 G2 ∧ ED C Y G2 σ H ρ2 ∧ PostS C W N Y G2 (loopF t b (ds.drop i) ρ2), ⟨ds.length, by omega, G1, ρ1, Sub.rfl, E1, p1⟩, ?_⟩
  rintro i m σ2 H2 ⟨hm, G2, ρ2, s2, E2, p2⟩
  by_cases hlt : i < ds.length
  · refine .inr ⟨I1.go i H2 (s2.trans E2.sub) hlt, fun σ' H' => ∃ G3 ρ3, Sub G1 G3 ∧ ED C Y G3 σ' H' ρ3 ∧ PostS C W N Y G3 (loopF t b (ds.drop (i + 1)) ρ3), fun σ' H' q => ⟨m - 1, by omega, by omega, q⟩, fun x H' hy => ?_⟩
    obtain ⟨d, hd, step⟩ := I1.yld i x H2 H' (s2.trans E2.sub) hlt hy
    obtain ⟨G3, s3, E3, dn⟩ := step Y σ2 ρ2 G2 s2 E2
    have hdr : ds.drop i = d :: ds.drop (i + 1) := by
      rw [List.getElem?_eq_getElem hlt] at hd
      cases hd
      exact List.drop_eq_getElem_cons hlt
    rw [hdr] at p2
    unfold loopF at p2
    cases ht : t d ρ2 with
    | none => rw [ht] at p2; exact p2.elim
    | some ρ3 =>
      rw [ht] at p2
      dsimp only at p2
      refine ⟨Y, G3, ρ2, d, ρ3, E3, dn, ht, fun σ3 _ E4 => ⟨Y, G3, ρ3, E4, ?_⟩⟩
      have p3 := p2.mono s3
      cases hb2 : b ρ3 with
      | bad => rw [hb2] at p3; exact p3.elim
      | exc c d ρ1 => rw [hb2] at p3; exact p3
      | ok fl ρ4 =>
        rw [hb2] at p3
        cases fl with
        | nx => exact fun G5 σ5 H5 s5 E5 => ⟨G5, ρ4, (s2.trans s3).trans s5, E5, p3.mono s5⟩
        | ct => exact fun G5 σ5 H5 s5 E5 => ⟨G5, ρ4, (s2.trans s3).trans s5, E5, p3.mono s5⟩
        | bk => exact fun G5 σ5 H5 s5 E5 => p3 G5 σ5 H5 s5 E5
        | rt o => exact fun G5 σ5 H5 v s5 E5 od => p3 G5 σ5 H5 v s5 E5 od
  · refine .inl ⟨I1.stop i H2 (s2.trans E2.sub) (by omega), ?_⟩
    rw [List.drop_eq_nil_of_le (by omega)] at p2
    exact p2 G2 σ2 H2 Sub.rfl E2

/-! ### while -/
def loopW (t : M Bool) (body : M Fl) : Nat → M Fl
  | 0, _ => .bad
  | n + 1, ρ => (t ρ).bind fun c ρ1 => if c then (body ρ1).bind fun f ρ2 => match f with
      | .nx => loopW t body n ρ2
      | .ct => loopW t body n ρ2
      | .bk => .ok .nx ρ2
      | .rt o => .ok (.rt o) ρ2
    else .ok .nx ρ1
def sWhile (n : Nat) (t : M Bool) (body : M Fl) : M Fl := loopW t body n
theorem ds_while {X : Cx} {C : Cn} {W : WX} {c : Expr} {body : List Stmt} {t : M Bool} {b : M Fl} {pos : Pos} (n : Nat) (hp : PassesOwn (model X.prog X.w) X.A X.env X.xe) (hc : PT X c (tT C W t)) (hb : PSs X body (tS C W b)) : PS X (.While c body [] pos) (tS C W (sWhile n t b)) :=
  PS.st (ps_while hp hc hb) fun N σ H h => by
    obtain ⟨Y, G, ρ, E, p⟩ := h
    refine ⟨fun m σ H => ∃ G2 ρ2, Sub G G2 ∧ ED C Y G2 σ H ρ2 ∧ PostS C W N Y G2 (loopW t b m ρ2), ⟨n, G, ρ, Sub.rfl, E, p⟩, ?_⟩
    rintro m σ2 H2 ⟨G2, ρ2, s2, E2, p2⟩
    cases m with
    | zero => exact p2.elim
    | succ m =>
      unfold loopW at p2
      refine seqT (C := C) (PostS.lk (σ := σ2)) E2 p2 fun G3 H3 ρ3 c s3 E3 p3 => ?_
      cases c with
      | false => exact p3 G3 σ2 H3 Sub.rfl E3
      | true =>
        refine ⟨fun σ' H' => ∃ G4 ρ4, Sub G G4 ∧ ED C Y G4 σ' H' ρ4 ∧ PostS C W N Y G4 (loopW t b m ρ4), fun σ' H' q => ⟨m, Nat.lt_succ_self _, q⟩, Y, G3, ρ3, E3, ?_⟩
        have p3 : PostS C W N Y G3 ((b ρ3).bind fun f ρ2 => match f with
          | .nx => loopW t b m ρ2
          | .ct => loopW t b m ρ2
          | .bk => .ok .nx ρ2
          | .rt o => .ok (.rt o) ρ2) := p3
        cases hb2 : b ρ3 with
        | bad => rw [hb2] at p3; exact p3.elim
        | exc c d ρ1 => rw [hb2] at p3; exact p3
        | ok fl ρ4 =>
          rw [hb2] at p3
          cases fl with
          | nx => exact fun G5 σ5 H5 s5 E5 => ⟨G5, ρ4, (s2.trans s3).trans s5, E5, p3.mono s5⟩
          | ct => exact fun G5 σ5 H5 s5 E5 => ⟨G5, ρ4, (s2.trans s3).trans s5, E5, p3.mono s5⟩
          | bk => exact fun G5 σ5 H5 s5 E5 => p3 G5 σ5 H5 s5 E5
          | rt o => exact fun G5 σ5 H5 v s5 E5 od => p3 G5 σ5 H5 v s5 E5 od
end DL

set_option Elab.async false
set_option linter.all false
set_option maxRecDepth 100000
set_option maxHeartbeats 1000000
/-! The data layer: list comprehensions. -/
namespace DL
open PySem PySem.Spec L2
open PyProof.Rows hiding St

/-- no exception is wished for (a comprehension's block) -/
abbrev WF : WX := fun _ _ _ _ => False
def wipeD (ρ : DEnv) : List Nat → DEnv
  | [] => ρ
  | v :: vs => (wipeD ρ vs).set v none
theorem wipeD_none {ρ : DEnv} {i : Nat} {y : Bool × D} : ∀ {vs : List Nat}, (wipeD ρ vs)[i]? = some (some y) → ρ[i]? = some (some y) ∧ i ∉ vs
  | [], h => ⟨h, by simp⟩
  | v :: vs, h => by
    unfold wipeD at h
    rcases set_get h with ⟨_, q⟩ | ⟨hj, q⟩
    · cases q
    · obtain ⟨h1, h2⟩ := wipeD_none q
      exact ⟨h1, by simp [hj, h2]⟩
section
variable {C : Cn} {Y : Gr} {G : Hp} {σ σ' : St} {H : Hp} {ρ : DEnv}
theorem ED.agree (E : ED C Y G σ H ρ) (hl : σ'.length = σ.length) (h : ∀ (i : Nat) (y : Bool × D), ρ[i]? = some (some y) → σ'[i]? = σ[i]?) : ED C Y G σ' H ρ := by
  refine ⟨E.sub, fun i d e => ?_, fun i d e => ?_, fun i j d e p hij h1 h2 h3 h4 => ?_, E.len.trans hl.symm, fun i p hb => ?_, E.old, E.fz, E.g0⟩
  · rw [h i _ e]; exact E.frz i d e
  · rw [h i _ e]; exact E.own i d e
  · rw [h i _ h1] at h3
    rw [h j _ h2] at h4
    exact E.ap i j d e p hij h1 h2 h3 h4
  · obtain ⟨h1, hn, b, d, h2, hc, h3⟩ := E.bor i p hb
    exact ⟨by rw [h i _ h2]; exact h1, hn, b, d, h2, hc, h3⟩
theorem ED.wipe (E : ED C Y G σ H ρ) : ∀ {vs : List Nat}, (∀ i ∈ vs, C.np ≤ i) → ED C Y G σ H (wipeD ρ vs)
  | [], _ => E
  | v :: vs, h => by
    unfold wipeD
    refine (E.wipe fun i hi => h i (List.mem_cons_of_mem _ hi)).drop' ?_
    unfold okSet
    rw [decide_eq_true (h v List.mem_cons_self)]; rfl
end
theorem wipe_get {σ : St} {i : Nat} : ∀ {vs : List Nat}, i ∉ vs → (L2.wipe σ vs)[i]? = σ[i]?
  | [], _ => rfl
  | v :: vs, h => by
    have h1 : v ≠ i := fun e => h (by simp [e])
    unfold L2.wipe
    rw [List.getElem?_set_ne h1]
    exact wipe_get fun q => h (List.mem_cons_of_mem _ q)
theorem wipe_in {σ : St} {i : Nat} : ∀ {vs : List Nat}, i ∈ vs → i < σ.length → (L2.wipe σ vs)[i]? = some none
  | v :: vs, h, hl => by
    unfold L2.wipe
    by_cases hv : v = i
    · subst hv
      rw [List.getElem?_set_self (by rw [wipe_length]; exact hl)]
    · rw [List.getElem?_set_ne hv]
      exact wipe_in (by rcases List.mem_cons.mp h with e | h; exact absurd e.symm hv; exact h) hl
/-- stores to the block's own names are wiped away -/
theorem wipe_keep {σ σ2 : St} {is vs : List Nat} (k : Keep is (L2.wipe σ vs) σ2) (h : ∀ i ∈ is, i ∈ vs) : L2.wipe σ2 vs = L2.wipe σ vs := by
  have hl : σ2.length = σ.length := by rw [k.1, wipe_length]
  apply List.ext_getElem?
  intro i
  by_cases hi : i ∈ vs
  · by_cases hlt : i < σ.length
    · rw [wipe_in hi hlt, wipe_in hi (by rw [hl]; exact hlt)]
    · rw [List.getElem?_eq_none (by rw [wipe_length, hl]; omega), List.getElem?_eq_none (by rw [wipe_length]; omega)]
  · rw [wipe_get hi, wipe_get hi, k.2 i (fun z => hi (h i z)), wipe_get hi]

def tYes' : M Bool := fun ρ => .ok true ρ
def lcGo (vs : List Nat) (t : Tg) (c : M Bool) (f : M Opd) : List D → List D → DEnv → R (List D)
  | [], acc, ρ => .ok acc ρ
  | d :: ds, acc, ρ => match t d ρ with
    | some ρ1 => match c ρ1 with
      | .ok true ρ2 => match f ρ2 with
        | .ok o ρ3 => match takeO o ρ3 with
          | some (y, ρ4) => if acc.length < 16777216 then lcGo vs t c f ds (acc ++ [y]) (wipeD ρ4 vs) else .bad
          | none => .bad
        | _ => .bad
      | .ok false ρ2 => lcGo vs t c f ds acc (wipeD ρ2 vs)
      | _ => .bad
    | none => .bad
def finLc (r : R (List D)) : R Opd := match r with
  | .ok acc ρ => .ok (.own (.lst acc)) ρ
  | _ => .bad
def eLc (it : M (List D)) (vs : List Nat) (t : Tg) (c : M Bool) (f : M Opd) : M Opd := fun ρ => (it ρ).bind fun ds ρ1 => finLc (lcGo vs t c f ds [] (wipeD ρ1 vs))
section
variable {X : Cx} {C : Cn} {W : WX}
theorem tLc_of {it : M (List D)} {vs is : List Nat} {t : Tg} {c : M Bool} {f : M Opd} (hv : ∀ i ∈ vs, C.np ≤ i) (his : ∀ i ∈ is, i ∈ vs) {σ : St} {H : Hp} {Q : VK} (h : tE C W (eLc it vs t c f) σ H Q) :
    tLc (tI C W it) (tG C is t) (tT C WF c) (tE C WF f) vs σ H Q := by
  obtain ⟨Y, G, ρ, E, p⟩ := h
  refine seqI (C := C) Post.lk E p fun G1 H1 ρ1 ds J s1 E1 I1 p1 => ?_
  intro Dd hD
  have off := E1.off hD
  refine ⟨fun i m H => m + i = ds.length ∧ ∃ G2 ρ2 acc av, Sub G1 G2 ∧ ED C (Y.prot Dd (.lst av)) G2 σ H (wipeD ρ2 vs) ∧ denL C.b G2 acc av ∧ Post C W Q Y G2 σ (finLc (lcGo vs t c f (ds.drop i) acc (wipeD ρ2 vs))),
    ⟨ds.length, by omega, G1, ρ1, [], [], Sub.rfl, (E1.wipe hv).prot hD, by unfold denL; rfl, p1⟩, ?_⟩
  rintro i m H2 ⟨hm, G2, ρ2, acc, av, s2, E2, dacc, p2⟩
  by_cases hlt : i < ds.length
  · refine .inr ⟨I1.go i H2 (s2.trans E2.sub) hlt, fun H' => ∃ G3 ρ3 acc av, Sub G1 G3 ∧ ED C (Y.prot Dd (.lst av)) G3 σ H' (wipeD ρ3 vs) ∧ denL C.b G3 acc av ∧ Post C W Q Y G3 σ (finLc (lcGo vs t c f (ds.drop (i + 1)) acc (wipeD ρ3 vs))),
      fun H' q => ⟨m - 1, by omega, by omega, q⟩, fun x H' hy => ?_⟩
    obtain ⟨d, hd, step⟩ := I1.yld i x H2 H' (s2.trans E2.sub) hlt hy
    obtain ⟨G3, s3, E3, dn⟩ := step _ σ _ G2 s2 E2
    have hdr : ds.drop i = d :: ds.drop (i + 1) := by
      rw [List.getElem?_eq_getElem hlt] at hd
      cases hd
      exact List.drop_eq_getElem_cons hlt
    rw [hdr] at p2
    unfold lcGo at p2
    cases ht : t d (wipeD ρ2 vs) with
    | none => rw [ht] at p2; exact p2.elim
    | some ρ3 =>
      rw [ht] at p2
      dsimp only at p2
      have E3' : ED C (Y.prot Dd (.lst av)) G3 (L2.wipe σ vs) H' (wipeD ρ2 vs) := E3.agree (wipe_length σ vs) fun j y hj => wipe_get (wipeD_none hj).2
      refine ⟨_, G3, _, d, ρ3, E3', dn, ht, fun σ3 k3 E4 => ⟨wipe_keep k3 his, ?_⟩⟩
      -- back to the names as they were
      have back : ∀ {Y' : Gr} {G' H' : Hp} {ρ' : DEnv}, ED C Y' G' σ3 H' ρ' → ED C Y' G' σ H' (wipeD ρ' vs) := fun {Y' G' H' ρ'} E' =>
        (E'.wipe hv).agree (by rw [k3.1, wipe_length]) fun j y hj => by
          have hn := (wipeD_none hj).2
          rw [k3.2 j (fun z => hn (his j z)), wipe_get hn]
      refine ⟨_, G3, ρ3, E4, ?_⟩
      cases hc : c ρ3 with
      | bad => rw [hc] at p2; exact p2.elim
      | exc _ _ _ => rw [hc] at p2; exact p2.elim
      | ok b ρ4 =>
        rw [hc] at p2
        intro G5 H5 s5 E5
        cases b with
        | false =>
          rw [if_neg Bool.false_ne_true]
          exact ⟨G5, ρ4, acc, av, (s2.trans s3).trans s5, back E5, denL.mono (s3.trans s5) _ _ dacc, (p2.mono (s3.trans s5))⟩
        | true =>
          rw [if_pos rfl]
          dsimp only at p2
          refine ⟨_, G5, ρ4, E5, ?_⟩
          cases hf : f ρ4 with
          | bad => rw [hf] at p2; exact p2.elim
          | exc _ _ _ => rw [hf] at p2; exact p2.elim
          | ok o ρ5 =>
            rw [hf] at p2
            intro G6 H6 v s6 E6 od
            dsimp only at p2
            cases htk : takeO o ρ5 with
            | none => rw [htk] at p2; exact p2.elim
            | some z =>
              obtain ⟨y, ρ6⟩ := z
              rw [htk] at p2
              dsimp only at p2
              obtain ⟨G7, s7, E7, dy⟩ := takeO_ok E6 od htk
              by_cases hz : acc.length < 16777216
              · rw [if_pos hz] at p2
                have off7 : Off Y Dd := off
                obtain ⟨c1, _, _⟩ := E7.cell off7
                have s37 := ((s3.trans s5).trans s6).trans s7
                have hl := dacc.len
                refine ⟨av, c1, by rw [sz_eq]; omega, G7, ρ6, acc ++ [y], av ++ [v], s2.trans s37, back (E7.setC off7), ?_, p2.mono s37⟩
                exact denL_iff.mpr (pd_app (denL_iff.mp (denL.mono s37 _ _ dacc)) (.cons dy .nil))
              · rw [if_neg hz] at p2; exact p2.elim
  · refine .inl ⟨I1.stop i H2 (s2.trans E2.sub) (by omega), ?_⟩
    rw [List.drop_eq_nil_of_le (by omega)] at p2
    obtain ⟨c1, _, _⟩ := E2.cell off
    obtain ⟨E3, od⟩ := E2.cellO off (d := .lst acc) ⟨av, c1, dacc⟩
    exact p2 G2 H2 _ Sub.rfl E3 od
variable {elt tg iter : Expr} {ifs : List Expr} {scope : Scope} {own : List (Str × Nat)} {pos spos py : Pos} {it : M (List D)} {is : List Nat} {t : Tg} {c : M Bool} {f : M Opd}
theorem de_lc (hc : X.calm = true) (hN : X.N.Nodup) (hv : ∀ i ∈ own.map (·.2), C.np ≤ i) (his : ∀ i ∈ is, i ∈ own.map (·.2)) (hi : PI X tg iter (tI C W it)) (ok : BlkOk X.N X.env.scope scope own)
    (hg : ∀ (s : Shared) (H : Hp) (Ca : Addr) (cl : List (Str × Addr)) (fp : List Addr), PG (X.blk s H scope (compEnvC scope cl Ca X.env) fp) tg (tG C is t)) (ht : ∀ (s : Shared) (H : Hp) (Ca : Addr) (cl : List (Str × Addr)) (fp : List Addr), PTs (X.blk s H scope (compEnvC scope cl Ca X.env) fp) ifs (tT C WF c))
    (he : ∀ (s : Shared) (H : Hp) (Ca : Addr) (cl : List (Str × Addr)) (fp : List Addr), PE (X.blk s H scope (compEnvC scope cl Ca X.env) fp) elt (tE C WF f)) (hs : ∀ x, foldedSetIterable iter X.env x = pure x := by intro _; rfl) :
    PE X (.ListComp elt [⟨tg, iter, ifs, 0⟩] scope pos) (tE C W (eLc it (own.map (·.2)) t c f)) :=
  PE.st (pe_lc hc hN hi ok hg ht he hs) fun _ _ _ h => tLc_of hv his h
theorem tE_asg {i : Nat} {f : M Opd} {N : Ends} {σ : St} {H : Hp} (h : tS C W (sAsg C.np i f) N σ H) : tE C W f σ H fun x H1 => N.nx (σ.set i (some x)) H1 := by
  obtain ⟨Y, G, ρ, E, p⟩ := h
  refine seq0 (C := C) (PostS.lk (σ := σ)) E p fun G1 H1 ρ1 o v s1 E1 od p1 => ?_
  cases e1 : rsv o ρ1 with
  | none => rw [e1] at p1; exact p1.elim
  | some z =>
    obtain ⟨o', ρ2⟩ := z
    rw [e1] at p1
    obtain ⟨G2, s2, E2, od2⟩ := rsv_ok E1 od e1
    dsimp only at p1
    cases e2 : asg C.np i o' ρ2 with
    | none => rw [e2] at p1; exact p1.elim
    | some ρ3 =>
      rw [e2] at p1
      exact p1 G2 _ H1 s2 (asg_ok E2 od2 e2)
theorem ds_setLc {i : Nat} {y : Str} (hc : X.calm = true) (hN : X.N.Nodup) (hy : X.N[i]? = some y) (hyl : X.env.scope.names.lookup y = some .local)
    (hsw : swapsWith (.ListComp elt [⟨tg, iter, ifs, 0⟩] scope pos) (some (.Name y py)) spos.line X.env = pure true) (hv : ∀ i ∈ own.map (·.2), C.np ≤ i) (his : ∀ i ∈ is, i ∈ own.map (·.2)) (hi : PI X tg iter (tI C W it)) (ok : BlkOk X.N X.env.scope scope own)
    (hg : ∀ (s : Shared) (H : Hp) (Ca : Addr) (cl : List (Str × Addr)) (fp : List Addr), PG (X.blk s H scope (compEnvC scope cl Ca X.env) fp) tg (tG C is t)) (ht : ∀ (s : Shared) (H : Hp) (Ca : Addr) (cl : List (Str × Addr)) (fp : List Addr), PTs (X.blk s H scope (compEnvC scope cl Ca X.env) fp) ifs (tT C WF c))
    (he : ∀ (s : Shared) (H : Hp) (Ca : Addr) (cl : List (Str × Addr)) (fp : List Addr), PE (X.blk s H scope (compEnvC scope cl Ca X.env) fp) elt (tE C WF f)) (hs : ∀ x, foldedSetIterable iter X.env x = pure x := by intro _; rfl) :
    PS X (.Assign [.Name y py] (.ListComp elt [⟨tg, iter, ifs, 0⟩] scope pos) spos) (tS C W (sAsg C.np i (eLc it (own.map (·.2)) t c f))) :=
  PS.st (ps_setLc hc hN hy hyl hsw hi ok hg ht he hs) fun _ _ _ h => tLc_of hv his (tE_asg h)
theorem PTs.st {X : Cx} {e : List Expr} {t t' : TT} (h : PTs X e t) (i : ∀ σ H Q, t' σ H Q → t σ H Q) : PTs X e t' := ⟨fun pins s σ H Q I q => h.run pins s σ H Q I (i σ H Q q)⟩
theorem dts_nil : PTs X [] (tT C W tYes') := PTs.st pts_nil fun σ H Q h => by
  obtain ⟨Y, G, ρ, E, p⟩ := h
  exact p G H Sub.rfl E
theorem dts_one {cnd : Expr} (h : PT X cnd (tT C W c)) : PTs X [cnd] (tT C W c) := pts_one h
end
end DL

set_option Elab.async false
set_option linter.all false
set_option maxRecDepth 100000
set_option maxHeartbeats 1000000
/-! The data layer: what writes at an owned list; dict displays; list(range). -/
namespace DL
open PySem PySem.Spec L2
open PyProof.Rows hiding St

section
variable {C : Cn} {Y : Gr} {G : Hp} {σ : St} {H : Hp} {ρ : DEnv} {p : Addr} {o' : HO} {d d' : D} {i : Nat}
/-- the thing in an owned slot is written -/
theorem ED.mut (E : ED C Y G σ H ρ) (hr : ρ[i]? = some (some (true, d))) (hσ : σ[i]? = some (some (.ref p))) (ho : ownAt C.b G (upd H p o') p d') : ED C Y G σ (upd H p o') (ρ.set i (some (true, d'))) := by
  obtain ⟨p', h1, gn, oa, hB⟩ := E.own i d hr
  rw [hσ] at h1; cases h1
  have hlt := (List.getElem?_eq_some_iff.mp hr).1
  refine ⟨fun a u e => ?_, fun j e h => ?_, fun j e h => ?_, fun j k e e' q hjk h1 h2 h3 h4 => ?_, by rw [List.length_set]; exact E.len, fun j q hq => ?_, fun a u e hb => ?_, E.fz, E.g0⟩
  · have : a ≠ p := fun z => by rw [z, gn] at e; cases e
    rw [upd_ne this]; exact E.sub a u e
  · rcases set_get h with ⟨rfl, q⟩ | ⟨hj, q⟩
    · cases q
    · exact E.frz j e q
  · rcases set_get h with ⟨rfl, q⟩ | ⟨hj, q⟩
    · cases q
      exact ⟨p, hσ, gn, ho, hB⟩
    · obtain ⟨r, r1, r2, r3, r4⟩ := E.own j e q
      have hne : r ≠ p := fun z => E.ap j i e d p hj q hr (z ▸ r1) hσ
      exact ⟨r, r1, r2, r3.mono Sub.rfl (upd_ne hne), r4⟩
  · have pull : ∀ {m : Nat} {x : D}, (ρ.set i (some (true, d')))[m]? = some (some (true, x)) → ∃ y, ρ[m]? = some (some (true, y)) := fun {m x} h => by
      rcases set_get h with ⟨rfl, q⟩ | ⟨_, q⟩
      · exact ⟨d, hr⟩
      · exact ⟨x, q⟩
    obtain ⟨y1, q1⟩ := pull h1
    obtain ⟨y2, q2⟩ := pull h2
    exact E.ap j k y1 y2 q hjk q1 q2 h3 h4
  · obtain ⟨h1, hn, b', e', h2, hc, h3⟩ := E.bor j q hq
    by_cases hj : j = i
    · subst hj
      exact ⟨h1, hn, true, d', List.getElem?_set_self hlt, ho.cont, .inl rfl⟩
    · exact ⟨h1, hn, b', e', by rw [List.getElem?_set_ne (Ne.symm hj)]; exact h2, hc, h3⟩
  · have : a ≠ p := fun z => by
      subst z
      rcases hB with hB | hB
      · rw [hB] at e; cases e
      · exact hb i hB
    rw [upd_ne this]; exact E.old a u e hb
end
def tyO : D → String
  | .lst _ => "list"
  | .dK _ => "dict"
  | _ => ""
theorem ownAt.ty {C : Cb} {K : PySem.W.Frag} {G H : Hp} {p : Addr} : ∀ {d : D}, ownAt C G H p d → tyV K (tyO d) (.ref p) H
  | .lst xs, ⟨vs, a, b⟩ => .inl ⟨rfl, vs, SqL.of a⟩
  | .dK xs, ⟨vs, a, b⟩ => .inr (.inr (.inl ⟨rfl, .inl ⟨vs, a⟩⟩))
/-- a method that writes at its owned receiver: what it leaves, what it gives -/
def MutD (C : Cn) (F : D → List D → Option (D × D)) (r : V → List V → Hp → VK → Prop) : Prop := ∀ {G H : Hp} {p : Addr} {d d' res : D} {ds : List D} {xs : List V} {Q : VK}, Sub G H → ownAt C.b G H p d → denL C.b G ds xs → F d ds = some (d', res) →
  (∀ v o, ownAt C.b G (upd H p o) p d' → den C.b G res v → Q v (upd H p o)) → r (.ref p) xs H Q
def finM (i : Nat) (F : D → List D → Option (D × D)) (ds : List D) (ρ : DEnv) : R Opd := match ρ[i]? with
  | some (some (true, d)) => match F d ds with
    | some (d', res) => .ok (.val res) (ρ.set i (some (true, d')))
    | none => .bad
  | _ => .bad
def eMut (T : String) (i : Nat) (fs : List (M Opd)) (F : D → List D → Option (D × D)) : M Opd := fun ρ => match ρ[i]? with
  | some (some (true, d)) => if tyO d = T then (eA fs ρ).bind fun os ρ1 => match takeAll os ρ1 with
      | some (ds, ρ2) => finM i F ds ρ2
      | none => .bad
    else .bad
  | _ => .bad
section
variable {X : Cx} {C : Cn} {W : WX} {o e : Expr} {es : List Expr} {f g : M Opd} {fs : List (M Opd)} {F : D → List D → Option (D × D)} {r : V → List V → Hp → VK → Prop} {name : Str} {apos cpos pos : Pos} {T id : String} {i : Nat}
theorem tE_var {Y : Gr} {G : Hp} {σ : St} {H : Hp} {ρ : DEnv} {b : Bool} {d : D} {Q : VK} (E : ED C Y G σ H ρ) (hr : ρ[i]? = some (some (b, d))) (h : ∀ v, σ[i]? = some (some v) → ∀ G' H', Sub G G' → ED C Y G' σ H' ρ → Q v H') : tE C W (eV i) σ H Q := by
  refine ⟨Y, G, ρ, E, ?_⟩
  have : eV i ρ = .ok (.slot i) ρ := by unfold eV; rw [hr]
  rw [this]
  exact fun G' H' v s E' od => h v od G' H' s E'
theorem finM_ok (hF : MutD C F r) {Y : Gr} {G : Hp} {σ : St} {H : Hp} {ρ : DEnv} {Q : VK} {v : V} {ds : List D} {xs : List V} (E : ED C Y G σ H ρ) (hv : σ[i]? = some (some v)) (dn : denL C.b G ds xs) (p : Post C W Q Y G σ (finM i F ds ρ)) : r v xs H Q := by
  unfold finM at p
  split at p
  · rename_i d hr
    obtain ⟨a, h1, gn, oa, hB⟩ := E.own i d hr
    rw [hv] at h1; cases h1
    cases hf : F d ds with
    | none => rw [hf] at p; exact p.elim
    | some z =>
      obtain ⟨d', res⟩ := z
      rw [hf] at p
      exact hF E.sub oa dn hf fun u o oa' dr => p G _ u Sub.rfl (E.mut hr hv oa') dr
  · exact p.elim
theorem de_mut (pa : PlainAttrs T) (slot : PySem.Slot T name id) (hty : typeOf (.builtin id) = pure (.type "method_descriptor")) (hm : MtR X id r) (hF : MutD C F r) (ho : PE X o (tE C W (eV i))) (ha : PA X (e :: es) (tA C W (eA fs)))
    (hbase : attributeBase o name X.env (eval o X.env) = eval o X.env := by rfl)
    (hfew : ((backTo cpos (starEach (e :: es) X.env)).all (fun x => !x.1) && (backToKw cpos (keywordEach [] X.env)).all (fun x => x.1.isSome)
      && decide ((e :: es).length + ([] : List Keyword).length + (if ([] : List Keyword).isEmpty then 0 else 1) < 30)) = true := by rfl)
    (hline : (apos.endLine == cpos.line) = true := by rfl) (hs : starEach (e :: es) X.env = (false, eval e X.env) :: starEach es X.env := by rfl) (hplain : (backTo cpos (starEach es X.env)).any (·.1) = false := by rfl) :
    PE X (.Call (.Attribute o name apos) (e :: es) [] cpos) (tE C W (eMut T i fs F)) :=
  PE.st (pe_bm pa slot hty hm ho ha hbase hfew hline hs hplain) fun σ H Q q => by
    obtain ⟨Y, G, ρ, E, p⟩ := q
    unfold eMut at p
    split at p
    · rename_i d hr
      split at p
      · rename_i ht
        refine tE_var E hr fun v hv G1 H1 s1 E1 => ?_
        obtain ⟨a, h1, gn, oa, hB⟩ := E1.own i d hr
        rw [hv] at h1; cases h1
        refine ⟨ht ▸ oa.ty, ?_⟩
        refine seqAp (C := C) Post.lk E1 (p.mono s1) fun G2 H2 ρ2 os vs s2 pl E2 ods p2 => ?_
        cases e1 : takeAll os ρ2 with
        | none => rw [e1] at p2; exact p2.elim
        | some z =>
          obtain ⟨ds, ρ3⟩ := z
          rw [e1] at p2
          obtain ⟨G3, s3, E3, d3⟩ := takeAll_ok E2 pl ods e1
          exact finM_ok hF E3 hv d3 (Post.mono s3 p2)
      · exact p.elim
    · exact p.elim
theorem de_mut0 (pa : PlainAttrs T) (slot : PySem.Slot T name id) (hty : typeOf (.builtin id) = pure (.type "method_descriptor")) (hm : MtR X id r) (hF : MutD C F r) (ho : PE X o (tE C W (eV i)))
    (hbase : attributeBase o name X.env (eval o X.env) = eval o X.env := by rfl)
    (hline : (apos.endLine == cpos.line) = true := by rfl) :
    PE X (.Call (.Attribute o name apos) [] [] cpos) (tE C W (eMut T i [] F)) :=
  PE.st (pe_bm0 pa slot hty hm ho hbase hline) fun σ H Q q => by
    obtain ⟨Y, G, ρ, E, p⟩ := q
    unfold eMut at p
    split at p
    · rename_i d hr
      split at p
      · rename_i ht
        refine tE_var E hr fun v hv G1 H1 s1 E1 => ?_
        obtain ⟨a, h1, gn, oa, hB⟩ := E1.own i d hr
        rw [hv] at h1; cases h1
        refine ⟨ht ▸ oa.ty, ?_⟩
        exact finM_ok (ds := []) hF E1 hv (by unfold denL; rfl) (Post.mono s1 p)
      · exact p.elim
    · exact p.elim
end
def appF : D → List D → Option (D × D)
  | .lst xs, [d] => if xs.length < 16777216 then some (.lst (xs ++ [d]), .non) else none
  | _, _ => none
def extF : D → List D → Option (D × D)
  | .lst xs, [.lst ys] => if xs.length + ys.length ≤ 16777216 then some (.lst (xs ++ ys), .non) else none
  | _, _ => none
def popF : D → List D → Option (D × D)
  | .lst xs, [] => match xs[xs.length - 1]? with
    | some d => some (.lst xs.dropLast, d)
    | none => none
  | _, _ => none
def popAtF : D → List D → Option (D × D)
  | .lst xs, [.int i] => if -(2 ^ 63) ≤ i ∧ i < 2 ^ 63 then match seqIndex? i xs.length with
      | some k => match xs[k]? with
        | some d => some (.lst (xs.eraseIdx k), d)
        | none => none
      | none => none
    else none
  | _, _ => none
section
variable {C : Cn}
theorem den_non {G : Hp} : den C.b G .non .non := by unfold den; rfl
theorem appD : MutD C appF rAppend := by
  intro G H p d d' res ds xs Q s oa dn hf h
  unfold appF at hf
  split at hf
  · split at hf
    · rename_i hz
      cases hf
      obtain ⟨vs, h1, h2⟩ := oa
      unfold denL at dn
      obtain ⟨v, r, rfl, d1, d2⟩ := dn
      unfold denL at d2
      subst d2
      refine ⟨p, vs, v, rfl, rfl, h1, by rw [sz_eq, ← h2.len]; exact hz, h _ _ ⟨_, upd_same, ?_⟩ den_non⟩
      exact denL_iff.mpr (pd_app (denL_iff.mp h2) (.cons d1 .nil))
    · cases hf
  · cases hf
theorem extD : MutD C extF rExtend := by
  intro G H p d d' res ds xs Q s oa dn hf h
  unfold extF at hf
  split at hf
  · split at hf
    · rename_i hz
      cases hf
      obtain ⟨vs, h1, h2⟩ := oa
      unfold denL at dn
      obtain ⟨v, r, rfl, d1, d2⟩ := dn
      unfold denL at d2
      subst d2
      unfold den at d1
      obtain ⟨b, zs, rfl, g1, g2⟩ := d1
      refine ⟨p, b, vs, zs, rfl, rfl, h1, s _ _ g1, by rw [sz_eq, ← h2.len, ← g2.len]; exact hz, h _ _ ⟨_, upd_same, ?_⟩ den_non⟩
      exact denL_iff.mpr (pd_app (denL_iff.mp h2) (denL_iff.mp g2))
    · cases hf
  · cases hf
theorem popD : MutD C popF rPop := by
  intro G H p d d' res ds xs Q s oa dn hf h
  unfold popF at hf
  split at hf
  · split at hf
    · rename_i hx
      cases hf
      obtain ⟨vs, h1, h2⟩ := oa
      unfold denL at dn
      subst dn
      have pd := denL_iff.mp h2
      obtain ⟨v, hv, dv⟩ := pd_get pd hx
      refine ⟨p, vs, v, rfl, rfl, h1, by rw [← h2.len]; exact hv, h _ _ ⟨_, upd_same, ?_⟩ dv⟩
      rw [List.dropLast_eq_take, List.dropLast_eq_take, ← h2.len]
      exact denL_iff.mpr (pd_take _ pd)
    · cases hf
  · cases hf
theorem popAtD : MutD C popAtF rPopAt := by
  intro G H p d d' res ds xs Q s oa dn hf h
  unfold popAtF at hf
  split at hf
  · split at hf
    · rename_i hb
      split at hf
      · rename_i k hk
        split at hf
        · rename_i hx
          cases hf
          obtain ⟨vs, h1, h2⟩ := oa
          unfold denL at dn
          obtain ⟨v, r, rfl, d1, d2⟩ := dn
          unfold denL at d2
          subst d2
          unfold den at d1
          subst d1
          have pd := denL_iff.mp h2
          obtain ⟨v, hv, dv⟩ := pd_get pd hx
          exact ⟨p, vs, _, k, v, rfl, rfl, h1, hb.1, hb.2, by rw [← h2.len]; exact hk, hv, h _ _ ⟨_, upd_same, denL_iff.mpr (pd_erase k pd)⟩ dv⟩
        · cases hf
      · cases hf
    · cases hf
  · cases hf
end

/-! ### x[i] = e at an owned slot -/
def StD (C : Cn) (F : D → D → D → Option D) (t : TSet) : Prop := ∀ {Y : Gr} {G H : Hp} {σ : St} {ρ : DEnv} {p : Addr} {d d' k e : D} {kv v : V} {Q : Hp → Prop}, ED C Y G σ H ρ → ownAt C.b G H p d → DV C.b G H k kv → den C.b G e v → F d k e = some d' →
  (∀ o, ownAt C.b G (upd H p o) p d' → Q (upd H p o)) → t (.ref p) kv v H Q
def finS (i : Nat) (F : D → D → D → Option D) (k : Opd) (d : D) (ρ : DEnv) : R Fl := match look k ρ with
  | some kd => match ρ[i]? with
    | some (some (true, c)) => match F c kd d with
      | some c' => .ok .nx (ρ.set i (some (true, c')))
      | none => .bad
    | _ => .bad
  | none => .bad
def sSetI (i : Nat) (fi f : M Opd) (F : D → D → D → Option D) : M Fl := fun ρ => (f ρ).bind fun o ρ1 => match takeO o ρ1 with
  | some (d, ρ2) => match ρ2[i]? with
    | some (some (true, _)) => (nrm fi ρ2).bind fun k ρ4 => finS i F k d ρ4
    | _ => .bad
  | none => .bad
theorem ds_setI {X : Cx} {C : Cn} {W : WX} {o ie e : Expr} {f fi : M Opd} {i : Nat} {pos pos' : Pos} {t : TSet} {F : D → D → D → Option D} (hs : PSet X t) (hF : StD C F t) (he : PE X e (tE C W f)) (ho : PE X o (tE C W (eV i))) (hi : PE X ie (tE C W fi))
    (ha : ∀ v, assign (.Subscript o ie pos') X.env v = (do
      let ov ← holding [v] (eval o X.env)
      let iv ← holding [v, ov] (eval ie X.env)
      standAt pos'
      holding [v, ov, iv] (setItem ov iv v)
      release [v, ov, iv] []) := by intro _; rfl)
    (hsw : swapsWithSole [.Subscript o ie pos'] e pos.line X.env = pure false := by rfl) (hw : swappedStores [.Subscript o ie pos'] e X.env = pure none := by rfl)
    (h1 : (assignEach [.Subscript o ie pos'] X.env).map (·.2) = [assign (.Subscript o ie pos') X.env] := by rfl) : PS X (.Assign [.Subscript o ie pos'] e pos) (tS C W (sSetI i fi f F)) :=
  PS.st (ps_asg he (pg_sub ho hi hs ha) hsw hw h1) fun N σ H h => by
    obtain ⟨Y, G, ρ, E, p⟩ := h
    refine seq0 (C := C) (PostS.lk (σ := σ)) E p fun G1 H1 ρ1 op v s1 E1 od p1 => ?_
    cases e1 : takeO op ρ1 with
    | none => rw [e1] at p1; exact p1.elim
    | some z =>
      obtain ⟨d, ρ2⟩ := z
      rw [e1] at p1
      obtain ⟨G2, s2, E2, dn⟩ := takeO_ok E1 od e1
      dsimp only at p1
      split at p1
      · rename_i c0 hr0
        refine tE_var E2 hr0 fun v3 hv3 G3 H3 s3 E3 => ?_
        refine seq1 (C := C) (PostS.lk (σ := σ)) E3 (PostS.mono (s2.trans s3) p1) fun G4 H4 ρ4 k kv s4 pl E4 od4 p4 => ?_
        unfold finS at p4
        cases l : look k ρ4 with
        | none => rw [l] at p4; exact p4.elim
        | some kd =>
          rw [l] at p4
          dsimp only at p4
          split at p4
          · rename_i c hr
            cases hf : F c kd d with
            | none => rw [hf] at p4; exact p4.elim
            | some c' =>
              rw [hf] at p4
              obtain ⟨a, h1, gn, oa, hB⟩ := E4.own i c hr
              rw [hv3] at h1; cases h1
              exact hF E4 oa (look_ok E4 od4 l) (den.mono (s3.trans s4) _ _ dn) hf fun o oa' => p4 G4 σ _ Sub.rfl (E4.mut hr hv3 oa')
          · exact p4.elim
      · exact p1.elim
def setF : D → D → D → Option D
  | .lst xs, .int i, d => match ixN xs.length i with
    | some j => some (.lst (xs.set j d))
    | none => none
  | _, _, _ => none
theorem setD {C : Cn} : StD C setF rSetL := by
  intro Y G H σ ρ p d d' k e kv v Q E oa hk dn hf h
  unfold setF at hf
  split at hf
  · split at hf
    · rename_i j hj
      cases hf
      obtain ⟨vs, h1, h2⟩ := oa
      refine ⟨p, vs, _, j, rfl, hk.int, h1, by rw [← h2.len]; exact hj, h _ ⟨_, upd_same, denL_iff.mpr (pd_set dn j (denL_iff.mp h2))⟩⟩
    · cases hf
  · cases hf
end DL

set_option Elab.async false
set_option linter.all false
set_option maxRecDepth 100000
set_option maxHeartbeats 1000000
/-! The data layer: dict displays; list(range). -/
namespace DL
open PySem PySem.Spec L2
open PyProof.Rows hiding St

/-! ### displays of dicts -/
def putKD (kvs : List (Key × D)) (k : Key) (v : D) : List (Key × D) :=
  if (kvs.any fun kv => decide (kv.1 = k)) = true then kvs.map (fun kv => if kv.1 = k then (kv.1, v) else kv) else kvs ++ [(k, v)]
def mergeD (kvs more : List (Key × D)) : List (Key × D) := more.foldl (fun acc kv => putKD acc kv.1 kv.2) kvs
def keyD : D → Option Key
  | .int i => some (.inl i)
  | .str s => some (.inr s)
  | _ => none
def keysD : List D → Option (List Key)
  | [] => some []
  | d :: ds => match keyD d, keysD ds with
    | some k, some ks => some (k :: ks)
    | _, _ => none
abbrev pdK (C : Cb) (G : Hp) : Key × D → Key × V → Prop := fun p q => p.1 = q.1 ∧ den C G p.2 q.2
section
variable {C : Cb} {G : Hp}
theorem pd_any {F : Key × D → Key × V → Prop} (hF : ∀ p q, F p q → p.1 = q.1) {k : Key} : ∀ {xs : List (Key × D)} {ys : List (Key × V)}, Paired F xs ys → (xs.any fun kv => decide (kv.1 = k)) = ys.any fun kv => decide (kv.1 = k)
  | _, _, .nil => rfl
  | _, _, .cons (a := a) (b := b) r t => by
    rw [List.any_cons, List.any_cons, pd_any hF t, hF _ _ r]
theorem pd_putMap {k : Key} {d : D} {v : V} (h : den C G d v) : ∀ {xs : List (Key × D)} {ys : List (Key × V)}, Paired (pdK C G) xs ys → Paired (pdK C G) (xs.map fun kv => if kv.1 = k then (kv.1, d) else kv) (ys.map fun kv => if kv.1 = k then (kv.1, v) else kv)
  | _, _, .nil => .nil
  | _, _, .cons (a := a) (b := b) r t => by
    rw [List.map_cons, List.map_cons]
    refine .cons ?_ (pd_putMap h t)
    have e : a.1 = b.1 := r.1
    by_cases hk : a.1 = k
    · rw [if_pos hk, if_pos (e ▸ hk)]; exact ⟨e, h⟩
    · rw [if_neg hk, if_neg (e ▸ hk)]; exact r
theorem pd_put {k : Key} {d : D} {v : V} (h : den C G d v) {xs : List (Key × D)} {ys : List (Key × V)} (p : Paired (pdK C G) xs ys) : Paired (pdK C G) (putKD xs k d) (putK ys k v) := by
  unfold putKD putK
  rw [pd_any (fun _ _ q => q.1) p]
  split
  · exact pd_putMap h p
  · exact pd_app p (.cons ⟨rfl, h⟩ .nil)
theorem pd_merge : ∀ {ms : List (Key × D)} {ns : List (Key × V)} {xs : List (Key × D)} {ys : List (Key × V)}, Paired (pdK C G) ms ns → Paired (pdK C G) xs ys → Paired (pdK C G) (mergeD xs ms) (mergeK ys ns)
  | _, _, _, _, .nil, p => p
  | _, _, _, _, .cons (a := a) (b := b) r t, p => by
    show Paired (pdK C G) (mergeD (putKD _ a.1 a.2) _) (mergeK (putK _ b.1 b.2) _)
    have e : a.1 = b.1 := r.1
    rw [e]
    exact pd_merge t (pd_put r.2 p)
end
def eP : List (M Opd × M Opd) → M (List Opd × List Opd)
  | [] => fun ρ => .ok ([], []) ρ
  | (fk, fv) :: r => fun ρ => (nrm fk ρ).bind fun k ρ1 => (nrm fv ρ1).bind fun v ρ2 => (eP r ρ2).bind fun ps ρ3 => .ok (k :: ps.1, v :: ps.2) ρ3
def finDisp (ps : List Opd × List Opd) (ρ : DEnv) : R Opd := match (looks ps.1 ρ).bind keysD with
  | some ks => match takeAll ps.2 ρ with
    | some (ds, ρ1) => if ks.length ≤ 15 then .ok (.own (.dK (mergeD [] (ks.zip ds)))) ρ1 else .bad
    | none => .bad
  | none => .bad
def eDisp (ps : List (M Opd × M Opd)) : M Opd := fun ρ => (eP ps ρ).bind finDisp
section
variable {X : Cx} {C : Cn} {W : WX} {pos : Pos}
/-- what is asked of the pairs -/
def PostP (C : Cn) (W : WX) (Q : List V → List V → Hp → Prop) (Y : Gr) (G : Hp) (σ : St) : R (List Opd × List Opd) → Prop
  | .ok os ρ => ∀ G' H ks vs, Sub G G' → ED C Y G' σ H ρ → allPl os.1 → allPl os.2 → allOD C Y G' σ H ρ os.1 ks → allOD C Y G' σ H ρ os.2 vs → Q ks vs H
  | .exc c d ρ => ∀ T dx G' H, C.b.mg c = some (.ref T) → Sub G G' → ED C Y G' σ H ρ → XD C.b G' H dx d → W (.ref T) (some dx) σ H
  | .bad => False
theorem PostP.mono {Q : List V → List V → Hp → Prop} {Y : Gr} {G G' : Hp} {σ : St} (h : Sub G G') : ∀ {r : R (List Opd × List Opd)}, PostP C W Q Y G σ r → PostP C W Q Y G' σ r
  | .ok o ρ, p => fun G2 H v vs s => p G2 H v vs (h.trans s)
  | .exc c d ρ, p => fun T dx G2 H hc s => p T dx G2 H hc (h.trans s)
  | .bad, p => p
theorem PostP.lk {Y : Gr} {σ : St} {Q : List V → List V → Hp → Prop} : Lk C W Y σ (fun G r => PostP C W Q Y G σ r) := ⟨fun s p => p.mono s, fun p => p, fun p => p⟩
theorem tPairs_of : ∀ {ps : List (M Opd × M Opd)} {Y : Gr} {G : Hp} {σ : St} {H : Hp} {ρ : DEnv} {Q : List V → List V → Hp → Prop} {S : List (V × V) → Hp → Prop}, ED C Y G σ H ρ → PostP C W Q Y G σ (eP ps ρ) → (∀ qs H2, Q (qs.map (·.1)) (qs.map (·.2)) H2 → S qs H2) →
    tPairs (ps.map fun p => (tE C W p.1, tE C W p.2)) σ H S
  | [], Y, G, σ, H, ρ, Q, S, E, p, h => h [] H (p G H [] [] Sub.rfl E trivial trivial rfl rfl)
  | (fk, fv) :: r, Y, G, σ, H, ρ, Q, S, E, p, h => by
    refine seq1 (C := C) PostP.lk E p fun G1 H1 ρ1 o1 v1 s1 pl1 E1 od1 p1 => ?_
    refine seq1 (C := C) PostP.lk E1 p1 fun G2 H2 ρ2 o2 v2 s2 pl2 E2 od2 p2 => ?_
    refine tPairs_of (ps := r) (Q := fun ks vs H3 => Q (v1 :: ks) (v2 :: vs) H3) E2 ?_ fun qs H3 z => h ((v1, v2) :: qs) H3 z
    cases hf : eP r ρ2 with
    | bad => rw [hf] at p2; exact p2
    | exc c d ρ3 => rw [hf] at p2; exact p2
    | ok os ρ3 =>
      rw [hf] at p2
      intro G3 H3 ks vs s3 E3 a1 a2 ok ov
      exact p2 G3 H3 (v1 :: ks) (v2 :: vs) s3 E3 ⟨pl1, a1⟩ ⟨pl2, a2⟩ ⟨v1, ks, rfl, od1.mv pl1 (s2.trans s3), ok⟩ ⟨v2, vs, rfl, od2.mv pl2 s3, ov⟩
theorem dps_nil : PPs X pos [] [] [] := pps_nil
theorem keys_pd {G H : Hp} {C : Cb} : ∀ {ds : List D} {ks : List Key} {vs : List V}, keysD ds = some ks → Paired (DV C G H) ds vs → vs = ks.map kV
  | [], ks, vs, e, p => by cases e; cases p; rfl
  | d :: ds, ks, vs, e, p => by
    cases p with
    | cons a b =>
      unfold keysD at e
      split at e
      · rename_i k ks' h1 h2
        cases e
        rw [keys_pd h2 b]
        cases d with
        | int i => cases h1; rw [DV.int a]; rfl
        | str i => cases h1; rw [DV.str a]; rfl
        | _ => cases h1
      · cases e
theorem pairs_zip : ∀ {ks : List Key} {vs : List V} {qs : List (V × V)}, ks.length = vs.length → qs.map (·.1) = ks.map kV → qs.map (·.2) = vs → qs = (ks.zip vs).map fun kv => (kV kv.1, kv.2)
  | [], [], qs, _, h, _ => by
    cases qs with
    | nil => rfl
    | cons a b => cases h
  | k :: ks, v :: vs, qs, hl, h1, h2 => by
    cases qs with
    | nil => cases h1
    | cons q qs =>
      rw [List.map_cons, List.map_cons] at h1
      rw [List.map_cons] at h2
      obtain ⟨e1, e2⟩ := List.cons.inj h1
      obtain ⟨e3, e4⟩ := List.cons.inj h2
      rw [List.zip_cons_cons, List.map_cons, ← pairs_zip (by simpa using hl) e2 e4]
      obtain ⟨a, b⟩ := q
      dsimp only at e1 e3
      rw [e1, e3]
theorem zip_pd {G : Hp} {C : Cb} : ∀ {ks : List Key} {ds : List D} {vs : List V}, denL C G ds vs → Paired (pdK C G) (ks.zip ds) (ks.zip vs)
  | [], _, _, _ => .nil
  | k :: ks, [], vs, h => by
    unfold denL at h; subst h; exact .nil
  | k :: ks, d :: ds, vs, h => by
    unfold denL at h
    obtain ⟨v, r, rfl, h1, h2⟩ := h
    exact .cons ⟨rfl, h1⟩ (zip_pd h2)
theorem allOD.len {Y : Gr} {G : Hp} {σ : St} {H : Hp} {ρ : DEnv} : ∀ {os : List Opd} {vs : List V}, allOD C Y G σ H ρ os vs → os.length = vs.length
  | [], vs, h => by cases (show vs = [] from h); rfl
  | o :: os, vs, h => by
    obtain ⟨v, r, rfl, _, h2⟩ := h
    simp [h2.len]
theorem eP_len : ∀ {ps : List (M Opd × M Opd)} {ρ ρ' : DEnv} {os : List Opd × List Opd}, eP ps ρ = .ok os ρ' → os.1.length = os.2.length
  | [], ρ, ρ', os, h => by cases h; rfl
  | (fk, fv) :: r, ρ, ρ', os, h => by
    unfold eP at h
    cases h1 : nrm fk ρ with
    | bad => rw [h1] at h; cases h
    | exc c d ρ1 => rw [h1] at h; cases h
    | ok k ρ1 =>
      rw [h1] at h
      dsimp only [R.bind_ok] at h
      cases h2 : nrm fv ρ1 with
      | bad => rw [h2] at h; cases h
      | exc c d ρ1 => rw [h2] at h; cases h
      | ok v ρ2 =>
        rw [h2] at h
        dsimp only [R.bind_ok] at h
        cases h3 : eP r ρ2 with
        | bad => rw [h3] at h; cases h
        | exc c d ρ1 => rw [h3] at h; cases h
        | ok qs ρ3 =>
          rw [h3] at h
          cases h
          simp [eP_len h3]
theorem de_disp {ps : List (M Opd × M Opd)} {keys : List (Option Expr)} {values : List Expr} (h : PPs X pos keys values (ps.map fun p => (tE C W p.1, tE C W p.2))) (hall : keys.all (·.isSome) = true) (hl : keys.length = values.length) (h0 : keys ≠ [])
    (h15 : keys.length ≤ 15) : PE X (.Dict keys values pos) (tE C W (eDisp ps)) := PE.st (pe_disp h hall hl h0 h15) fun σ H Q q => by
  obtain ⟨Y, G, ρ, E, p⟩ := q
  intro a ha
  have f := E.off ha
  have E0 := E.prot (o := .dK []) ha
  refine tPairs_of (C := C) (W := W) (Q := fun ks vs H2 => H2 a = some (.dK []) ∧ ∃ kvs : List (Key × V), (∀ qs : List (V × V), qs.map (·.1) = ks → qs.map (·.2) = vs → qs = kvs.map fun kv => (kV kv.1, kv.2)) ∧ kvs.length ≤ 15 ∧ Q (.ref a) (upd H2 a (.dK (mergeK [] kvs)))) E0 ?_ fun qs H2 z => ?_
  · unfold eDisp at p
    cases hf : eP ps ρ with
    | bad => rw [hf] at p; exact p
    | exc c d ρ3 =>
      rw [hf] at p
      exact fun T dx G' H' hc s E' x => p T dx G' H' hc s (E'.unprot f) x
    | ok os ρ3 =>
      rw [hf] at p
      intro G' H' ks vs s E' a1 a2 ok ov
      refine ⟨(E'.cell f).1, ?_⟩
      have p' : Post C W Q Y G σ (finDisp os ρ3) := p
      unfold finDisp at p'
      cases e1 : (looks os.1 ρ3).bind keysD with
      | none => rw [e1] at p'; exact p'.elim
      | some kk =>
        rw [e1] at p'
        dsimp only at p'
        cases e2 : takeAll os.2 ρ3 with
        | none => rw [e2] at p'; exact p'.elim
        | some z =>
          obtain ⟨ds, ρ4⟩ := z
          rw [e2] at p'
          dsimp only at p'
          split at p'
          · rename_i h15'
            cases e3 : looks os.1 ρ3 with
            | none => rw [e3] at e1; cases e1
            | some kds =>
              rw [e3] at e1
              have hks := keys_pd e1 (looks_ok E' ok e3)
              obtain ⟨G2, s2, E2, dn⟩ := takeAll_ok E' a2 ov e2
              have hlen : kk.length = vs.length := by
                have l1 := ok.len
                have l2 := ov.len
                have l3 := eP_len hf
                rw [hks, List.length_map] at l1
                omega
              refine ⟨kk.zip vs, fun qs q1 q2 => pairs_zip hlen (q1.trans hks) q2, ?_, ?_⟩
              · rw [List.length_zip]; omega
              · have E3 := E2.setC (o' := .dK (mergeK [] (kk.zip vs))) f
                obtain ⟨E4, od4⟩ := E3.cellO (d := .dK (mergeD [] (kk.zip ds))) f ⟨_, upd_same, denK_iff.mpr (pd_merge (zip_pd dn) .nil)⟩
                exact p' G2 _ _ (s.trans s2) E4 od4
          · exact p'.elim
  · obtain ⟨h1, kvs, h2, h3, h4⟩ := z
    exact ⟨h1, kvs, h2 qs rfl rfl, h3, h4⟩
theorem de_disp0 : PE X (.Dict [] [] pos) (tE C W (eDisp [])) := PE.st pe_dnewK fun σ H Q q => by
  obtain ⟨Y, G, ρ, E, p⟩ := q
  intro a ha
  obtain ⟨E2, od⟩ := OD.fresh (d := .dK []) E ha (o := .dK []) ⟨[], upd_same, by unfold denK; rfl⟩
  exact p G _ _ Sub.rfl E2 od
end

/-! ### list(range(e)) -/
def rgD (a b : Int) : List D := (List.range (b - a).toNat).map fun i => D.int (a + (i : Nat))
def eLRg (f : M Opd) : M Opd := fun ρ => (nrm f ρ).bind fun o ρ1 => match look o ρ1 with
  | some (.int n) => if n ≤ 16777216 ∧ -(2 ^ 62) ≤ n then .ok (.own (.lst (rgD 0 n))) ρ1 else .bad
  | _ => .bad
theorem rg_pd {C : Cb} {G : Hp} (a b : Int) : denL C G (rgD a b) (rgV a b) := by
  refine denL_iff.mpr ?_
  unfold rgD rgV
  induction (List.range (b - a).toNat) with
  | nil => exact .nil
  | cons x xs ih => exact .cons (by unfold den; rfl) ih
theorem de_lrg {X : Cx} {C : Cn} {W : WX} {e : Expr} {f : M Opd} {p p' pos pos' : Pos} (hc : X.calm = true) (hg : Gl X "list") (hm : X.mg "list" = none) (hg' : Gl X "range") (hm' : X.mg "range" = none) (he : PE X e (tE C W f))
    (na : starEach [e] X.env = (false, eval e X.env) :: starEach [] X.env := by rfl) (na' : starEach [.Call (.Name "range" p') [e] [] pos'] X.env = (false, eval (.Call (.Name "range" p') [e] [] pos') X.env) :: starEach [] X.env := by rfl) :
    PE X (.Call (.Name "list" p) [.Call (.Name "range" p') [e] [] pos'] [] pos) (tE C W (eLRg f)) := PE.st (pe_listRg hc hg hm (prg_1 hg' hm' he na) na') fun σ H Q q => by
  obtain ⟨Y, G, ρ, E, p⟩ := q
  refine seq1 (C := C) Post.lk E p fun G1 H1 ρ1 o1 v1 s1 pl1 E1 od1 p1 => ?_
  cases l : look o1 ρ1 with
  | none => rw [l] at p1; exact p1.elim
  | some d =>
    rw [l] at p1
    cases d with
    | int n =>
      dsimp only at p1
      split at p1
      · rename_i hn
        refine ⟨n, (look_ok E1 od1 l).int, ⟨by omega, by omega, by omega, by omega, by omega⟩, fun q hq => ?_⟩
        obtain ⟨E2, od⟩ := OD.fresh (d := .lst (rgD 0 n)) E1 hq (o := .lst (rgV 0 n)) ⟨_, upd_same, rg_pd 0 n⟩
        exact p1 G1 _ _ Sub.rfl E2 od
      · exact p1.elim
    | _ => exact p1.elim
end DL

set_option Elab.async false
set_option linter.all false
set_option maxRecDepth 100000
set_option maxHeartbeats 1000000
/-! The data layer: defs and calls. -/
namespace DL
open PySem PySem.Spec L2
open PyProof.Rows hiding St

/-! ### what a def promises, where no guard stands around -/
structure FnD (P : Program) (w : World) (K : PySem.W.Frag) (mg : Str → Option Value) (base : Heap) (k : Nat) (f : Addr) (fd : FuncData) (ps : List Str) (sp : Sp) : Prop where
  cnt : ∀ vs H Q E, sp vs H Q E → vs.length = ps.length
  go : ∀ (A : Around) (outer : List Env) (s : Shared) (H : Hp) (args : Args) (us : List Value) (vs : List V) (Q : VK) (E : XK), Room k A → A.guards = some [] → Env0 P w K mg base A outer s H → BindsTo s fd args (ps.zip us) → Vals vs us → sp vs H Q E →
    codeAny (model P w) A (.call (.ref f) args) (CR (CX P w) outer P w H s Q E) s
theorem FnD.mono {P : Program} {w : World} {K : PySem.W.Frag} {mg : Str → Option Value} {base : Heap} {j k : Nat} {f : Addr} {fd : FuncData} {ps : List Str} {sp : Sp} (F : FnD P w K mg base j f fd ps sp) (h : j ≤ k) : FnD P w K mg base k f fd ps sp :=
  ⟨F.cnt, fun A o s H a us vs Q E hr => F.go A o s H a us vs Q E (hr.mono h)⟩
def TkC (X : Cx) (W : WX) : Prop := ∀ (pins : List (Addr × Obj)) (σ : St) (H : Hp) (s : Shared) (e : Value) (s' : Shared), Inv X pins σ H s → CX X.prog X.w X.stack H s (fun c d H' => W c d σ H') e s' → X.xe e s'
theorem TkC.of {X : Cx} {W : WX} (tk : Takes X W) : TkC X W := fun _ _ _ _ _ _ I c => tk _ _ (XE.of_call I (fun _ _ _ h => h) c)
theorem TkC.none {X : Cx} : TkC X WF := fun _ _ _ _ _ _ _ c => by
  obtain ⟨a, B, H', cls, d, _, _, _, _, _, _, _, z⟩ := c
  exact z.elim
def tCallD (sp : Sp) (W : WX) (t : TA) : TE := fun σ H Q => t σ H fun vs H1 => sp vs H1 Q fun c d H' => W c d σ H'
section
variable {X : Cx} {W : WX} {k : Nat} {f : Addr} {fd : FuncData} {ps : List Str} {sp : Sp} {x : Str} {p pos : Pos} {e : Expr} {es : List Expr} {t : TA}
theorem run_d {pins : List (Addr × Obj)} {σ : St} {H : Hp} {s : Shared} {Q : VK} {us : List Value} {vs : List V} (F : FnD X.prog X.w X.K X.mg X.base k f fd ps sp) (hr : Room k X.A) (hgd : X.A.guards = some []) (hb : Binds X.K fd ps []) (tk : TkC X W)
    (I : Inv X pins σ H s) (r : Vals vs us) (h : sp vs H Q fun c d H' => W c d σ H') : wpAny (model X.prog X.w) X.A (call (.ref f) us) (EP X pins σ Q) X.xe s := by
  have hl : (us ++ []).length = ps.length := by rw [List.append_nil, ← r.length]; exact F.cnt _ _ _ _ h
  have b := hb s us I.kIn hl
  rw [List.append_nil] at b
  refine wpAny_call (codeAny_mono (F.go X.A X.stack s H ⟨us, []⟩ us vs Q _ hr hgd I.env0 b r h) fun res s' hq => ?_)
  match res, hq with
  | .error e, hq => exact tk pins σ H s e s' I hq
  | .ok (.ret u), hq => exact I.after hq
theorem pe_callD (F : FnD X.prog X.w X.K X.mg X.base k f fd ps sp) (hr : Room k X.A) (hgd : X.A.guards = some []) (hg : Gl X x) (hm : X.mg x = some (.ref f)) (hk : PySem.W.keepIn X.K (.ref f) = true) (hb : Binds X.K fd ps []) (tk : TkC X W)
    (ha : PA X (e :: es) t) (hdb : (x == ("__debug__" : Str)) = false := by decide) (he : starEach (e :: es) X.env = (false, eval e X.env) :: starEach es X.env := by rfl) (hpl : (backTo pos (starEach es X.env)).any (·.1) = false := by rfl) :
    PE X (.Call (.Name x p) (e :: es) [] pos) (tCallD sp W t) :=
  ⟨fun pins s σ H Q I h => wpAny_Call_Name_kw (ld_glob I hg hm (PySem.W.callWith_K (h₀ := X.base) I.ok.mod.kin hk (thn (ha.run pos pins s σ H _ I h) fun us s1 ⟨vs, H1, I1, r, q⟩ => ⟨I1.kIn, run_d F hr hgd hb tk I1 r q⟩) he hpl) hdb)⟩
theorem pe_callD0 (F : FnD X.prog X.w X.K X.mg X.base k f fd ps sp) (hr : Room k X.A) (hgd : X.A.guards = some []) (hg : Gl X x) (hm : X.mg x = some (.ref f)) (hk : PySem.W.keepIn X.K (.ref f) = true) (hb : Binds X.K fd ps []) (tk : TkC X W)
    (hdb : (x == ("__debug__" : Str)) = false := by decide) : PE X (.Call (.Name x p) [] [] pos) (tCallD sp W tNil) :=
  ⟨fun pins s σ H Q I h => wpAny_Call_Name_kw (ld_glob I hg hm (PySem.W.callWith_K0 I.kIn hk (run_d (us := []) F hr hgd hb tk I .nil h)) hdb)⟩
end
/-- a def of the text, by its body -/
theorem fnD_of {P : Program} {w : World} {K : PySem.W.Frag} {mg : Str → Option Value} {base : Heap} {k : Nat} {f : Addr} {name qual : Str} {params : Arguments} {body : List Stmt} {scope : Scope} {dV kV doc pm cdv ct oc : Value} {an od : Option Addr}
    {osl : Array (Option Value)} {N ps : List Str} {sp : Sp} (lk : K.lookup f = some ⟨oc, od, .func (PySem.W.fnOf name qual params body scope dV kV doc pm an cdv ct), osl⟩) (hcd : PySem.W.codeIn K cdv qual = true) (S : FnScope N ps scope)
    (len : ∀ vs H Q E, sp vs H Q E → vs.length = ps.length)
    (hbody : ∀ (A : Around) (outer : List Env) (s : Shared) (H : Hp) (vs : List V) (Q : VK) (E : XK), Room k (A.deeper (envOfC qual scope s.heap.objs.size f cdv)) → A.guards = some [] → sp vs H Q E →
      ∃ t, PSs (cxOf (CX P w) P w K mg base N qual scope f cdv A outer s H E) body t ∧ t { nx := fun _ H' => Q .non H', rt := Q } (start N vs) H) :
    FnD P w K mg base (k + 1) f (PySem.W.fnOf name qual params body scope dV kV doc pm an cdv ct) ps sp := by
  refine ⟨len, fun A outer s H args us vs Q E hr hgd e0 hb r hsp => ?_⟩
  have hn := len _ _ _ _ hsp
  have kin : K.In s.heap := e0.mod.kin.keeps fun _ _ q => (e0.bs _ _ q).1
  have par : ∀ y ∈ ps.zip us, scope.names.lookup y.1 = some .local ∨ (scope.names.lookup y.1 = some .cell ∧ ((cellsFrom (s.heap.objs.size + 1) scope.names []).lookup y.1).isSome = true) := by
    rintro ⟨y, v⟩ hy
    exact (S.par y (List.of_mem_zip hy).1).imp id fun q => ⟨q, PySem.W.cellsFrom_some _ _ _ (.inl q)⟩
  refine codeAny_call_function hr.depth (kin _ _ lk) rfl S.co S.gen rfl (PySem.W.codeRec_of kin hcd) (hb _ _ _ _ (wpAny_newFunctionEnv_cells S.kind par fun env he s1 x => ?_))
  subst he
  refine ⟨(e0.mod.nolimit.keeps fun _ _ q => (e0.bs _ _ q).1).keeps x.toInCall.keep, codeAny_func ?_⟩
  obtain ⟨t, ht, hq⟩ := hbody A outer s H vs Q E (hr.deeper _) hgd hsp
  have I0 : Inv (cxOf (CX P w) P w K mg base N qual scope f cdv A outer s H E) [] (start N vs) H s1 := inv_start S hr.hd e0 hn r x
  refine wpAny_mono (ht.run [] s1 (start N vs) H _ I0 hq) (fun fl s' hs => ?_) fun _ _ q => q
  match fl, hs with
  | .ret u, ⟨v, σ', H', J, rv, q⟩ => exact ⟨v, H', J.os, J.bare, J.base, J.hok, rv, q⟩
  | .next, ⟨σ', H', J, q⟩ => exact ⟨V.non, H', J.os, J.bare, J.base, J.hok, (rfl : (Value.none = Value.none)), q⟩
  | .brk, ⟨_, _, _, q⟩ => exact q.elim
  | .cont, ⟨_, _, _, q⟩ => exact q.elim
end DL

set_option Elab.async false
set_option linter.all false
set_option maxRecDepth 100000
set_option maxHeartbeats 1000000
/-! The data layer: what a def is in the mirror; calls; the law's call. -/
namespace DL
open PySem PySem.Spec L2
open PyProof.Rows hiding St

/-! ### the arguments of a call -/
/-- the parameters' slots stand for these values -/
structure ArgD (C : Cb) (G H : Hp) (vs : List V) (ρa : DEnv) : Prop where
  sub : Sub G H
  len : ρa.length = vs.length
  frz : ∀ (j : Nat) (d : D), ρa[j]? = some (some (false, d)) → ∃ v, vs[j]? = some v ∧ den C G d v
  own : ∀ (j : Nat) (d : D), ρa[j]? = some (some (true, d)) → ∃ p, vs[j]? = some (.ref p) ∧ G p = none ∧ ownAt C G H p d
  ap : ∀ (i j : Nat) (d e : D) (p : Addr), i ≠ j → ρa[i]? = some (some (true, d)) → ρa[j]? = some (some (true, e)) → vs[i]? = some (.ref p) → vs[j]? = some (.ref p) → False
/-- what is borrowed -/
def borA : DEnv → List V → Nat → List (Nat × Addr)
  | some (true, _) :: ρ, .ref p :: vs, k => (k, p) :: borA ρ vs (k + 1)
  | _ :: ρ, _ :: vs, k => borA ρ vs (k + 1)
  | _, _, _ => []
theorem borA_mem : ∀ {ρ : DEnv} {vs : List V} {k j : Nat} {p : Addr}, (j, p) ∈ borA ρ vs k ↔ ∃ m d, j = k + m ∧ ρ[m]? = some (some (true, d)) ∧ vs[m]? = some (.ref p)
  | [], vs, k, j, p => by simp [borA]
  | x :: ρ, [], k, j, p => by
    have : borA (x :: ρ) [] k = [] := by unfold borA; split <;> first | rfl | simp_all
    rw [this]; simp
  | x :: ρ, v :: vs, k, j, p => by
    have ih := @borA_mem ρ vs (k + 1) j p
    by_cases hx : ∃ d q, x = some (true, d) ∧ v = .ref q
    · obtain ⟨d, q, rfl, rfl⟩ := hx
      show (j, p) ∈ (k, q) :: borA ρ vs (k + 1) ↔ _
      rw [List.mem_cons, ih]
      constructor
      · rintro (e | ⟨m, d', rfl, h1, h2⟩)
        · cases e; exact ⟨0, d, rfl, rfl, rfl⟩
        · exact ⟨m + 1, d', by omega, by simpa using h1, by simpa using h2⟩
      · rintro ⟨m, d', rfl, h1, h2⟩
        cases m with
        | zero => left; simp at h1 h2; rw [h2]; rfl
        | succ m => right; exact ⟨m, d', by omega, by simpa using h1, by simpa using h2⟩
    · have e : borA (x :: ρ) (v :: vs) k = borA ρ vs (k + 1) := by
        match x, v, hx with
        | none, v, _ => cases v <;> rfl
        | some (false, d), v, _ => cases v <;> rfl
        | some (true, d), .ref q, hx => exact (hx ⟨d, q, rfl, rfl⟩).elim
        | some (true, d), .non, _ => rfl
        | some (true, d), .int _, _ => rfl
        | some (true, d), .bl _, _ => rfl
        | some (true, d), .str _, _ => rfl
        | some (true, d), v, hy => cases v <;> first | rfl | exact (hy ⟨_, _, rfl, rfl⟩).elim
      rw [e, ih]
      constructor
      · rintro ⟨m, d', rfl, h1, h2⟩
        exact ⟨m + 1, d', by omega, by simpa using h1, by simpa using h2⟩
      · rintro ⟨m, d', rfl, h1, h2⟩
        cases m with
        | zero => simp at h1 h2; exact (hx ⟨_, _, h1, h2⟩).elim
        | succ m => exact ⟨m, d', by omega, by simpa using h1, by simpa using h2⟩
/-- a def's ground -/
def grA (G H : Hp) (vs : List V) (ρa : DEnv) : Gr := ⟨H, G, borA ρa vs 0⟩
/-- its slots at the entry -/
def startD (n : Nat) (ρa : DEnv) : DEnv := ρa ++ List.replicate (n - ρa.length) none
theorem startD_get {n : Nat} {ρa : DEnv} {i : Nat} {y : Bool × D} (h : (startD n ρa)[i]? = some (some y)) : ρa[i]? = some (some y) := by
  unfold startD at h
  by_cases hi : i < ρa.length
  · rwa [List.getElem?_append_left hi] at h
  · rw [List.getElem?_append_right (by omega), List.getElem?_replicate] at h
    split at h <;> cases h
theorem start_get {N : List Str} {vs : List V} {i : Nat} {v : V} (h : vs[i]? = some v) : (L2.start N vs)[i]? = some (some v) := by
  unfold L2.start
  have hi : i < vs.length := (List.getElem?_eq_some_iff.mp h).1
  rw [List.getElem?_append_left (by simpa using hi), List.getElem?_map, h]; rfl
theorem start_get' {N : List Str} {vs : List V} {i : Nat} {v : V} (h : (L2.start N vs)[i]? = some (some v)) : vs[i]? = some v := by
  unfold L2.start at h
  by_cases hi : i < vs.length
  · rw [List.getElem?_append_left (by simpa using hi), List.getElem?_map] at h
    cases e : vs[i]? with
    | none => rw [e] at h; cases h
    | some a => rw [e] at h; cases h; rfl
  · rw [List.getElem?_append_right (by simpa using hi), List.getElem?_replicate] at h
    split at h <;> cases h
theorem ArgD.start {b : Cb} {G H : Hp} {vs : List V} {ρa : DEnv} (a : ArgD b G H vs ρa) (N : List Str) : ED ⟨b, vs.length⟩ (grA G H vs ρa) G (L2.start N vs) H (startD N.length ρa) := by
  refine ⟨a.sub, fun i d h => ?_, fun i d h => ?_, fun i j d e p hij h1 h2 h3 h4 => a.ap i j d e p hij (startD_get h1) (startD_get h2) (start_get' h3) (start_get' h4), ?_, fun i p hb => ?_, fun a o h _ => h, fun a o h => .inr (.inl h), Sub.rfl⟩
  · obtain ⟨v, h1, h2⟩ := a.frz i d (startD_get h)
    exact ⟨v, start_get h1, h2⟩
  · have h := startD_get h
    obtain ⟨p, h1, h2, h3⟩ := a.own i d h
    exact ⟨p, start_get h1, h2, h3, .inr (borA_mem.mpr ⟨i, d, by omega, h, h1⟩)⟩
  · unfold startD L2.start
    rw [List.length_append, List.length_append, List.length_replicate, List.length_replicate, List.length_map, a.len]
  · obtain ⟨m, d, rfl, h1, h2⟩ := borA_mem.mp hb
    rw [Nat.zero_add]
    obtain ⟨q, _, _, oa⟩ := a.own m d h1
    have hm := (List.getElem?_eq_some_iff.mp h2).1
    refine ⟨start_get h2, hm, true, d, ?_, oa.cont, .inl rfl⟩
    unfold startD
    rw [List.getElem?_append_left (by rw [a.len]; exact hm), h1]

/-- the promise of a def whose mirror is m, over nN slots -/
def spM (b : Cb) (np nN : Nat) (m : M Fl) : Sp := fun vs H Q E => vs.length = np ∧ ∃ G ρa, ArgD b G H vs ρa ∧ PostS ⟨b, np⟩ (fun T dx _ H' => E T dx H') { nx := fun _ H' => Q .non H', rt := Q } (grA G H vs ρa) G (m (startD nN ρa))

/-! ### the call -/
def argS (o : Opd) (ρ : DEnv) : Option Slot := match o with
  | .val d => some (some (false, d))
  | .own _ => none
  | .slot i => match ρ[i]? with
    | some (some x) => some (some x)
    | _ => none
def argsS : List Opd → DEnv → Option DEnv
  | [], _ => some []
  | o :: os, ρ => match argS o ρ, argsS os ρ with
    | some x, some r => some (x :: r)
    | _, _ => none
def ownIx (o : Opd) (ρ : DEnv) : Option Nat := match o with
  | .slot i => match ρ[i]? with
    | some (some (true, _)) => some i
    | _ => none
  | _ => none
/-- no owned slot is handed over twice -/
def apart : List Opd → DEnv → Bool
  | [], _ => true
  | o :: os, ρ => (match ownIx o ρ with
    | some i => os.all fun o' => decide (ownIx o' ρ ≠ some i)
    | none => true) && apart os ρ
def backD (ρ ρ' : DEnv) : List Opd → Nat → DEnv
  | [], _ => ρ
  | o :: os, j => match ownIx o ρ with
    | some i => (backD ρ ρ' os (j + 1)).set i (ρ'[j]?.getD none)
    | none => backD ρ ρ' os (j + 1)
def finC (os : List Opd) (ρ : DEnv) (r : R Fl) : R Opd := match r with
  | .ok .nx ρ' => .ok (.val .non) (backD ρ ρ' os 0)
  | .ok (.rt (.slot _)) _ => .bad
  | .ok (.rt o) ρ' => .ok o (backD ρ ρ' os 0)
  | .exc c d ρ' => .exc c d (backD ρ ρ' os 0)
  | _ => .bad
/-- a call of the def whose mirror is m -/
def callM (np nN : Nat) (m : M Fl) (os : List Opd) (ρ : DEnv) : R Opd := match argsS os ρ with
  | some ρa => if os.length = np ∧ apart os ρ = true then finC os ρ (m (startD nN ρa)) else .bad
  | none => .bad
def eCall (np nN : Nat) (m : M Fl) (fs : List (M Opd)) : M Opd := fun ρ => (eA fs ρ).bind (callM np nN m)

theorem ownIx_some {o : Opd} {ρ : DEnv} {i : Nat} (h : ownIx o ρ = some i) : o = .slot i ∧ ∃ d, ρ[i]? = some (some (true, d)) := by
  cases o with
  | val _ => cases h
  | own _ => cases h
  | slot j =>
    unfold ownIx at h
    dsimp only at h
    split at h
    · rename_i d hd; cases h; exact ⟨rfl, d, hd⟩
    · cases h
theorem argsS_get : ∀ {os : List Opd} {ρ ρa : DEnv}, argsS os ρ = some ρa → ∀ {j : Nat} {o : Opd}, os[j]? = some o → ∃ x, argS o ρ = some x ∧ ρa[j]? = some x
  | [], ρ, ρa, h, j, o, e => by simp at e
  | o' :: os, ρ, ρa, h, j, o, e => by
    unfold argsS at h
    cases h1 : argS o' ρ with
    | none => rw [h1] at h; cases h
    | some x =>
      cases h2 : argsS os ρ with
      | none => rw [h1, h2] at h; cases h
      | some r =>
        rw [h1, h2] at h
        cases h
        cases j with
        | zero => simp at e; subst e; exact ⟨x, h1, rfl⟩
        | succ j =>
          obtain ⟨y, y1, y2⟩ := argsS_get h2 (j := j) (by simpa using e)
          exact ⟨y, y1, by simpa using y2⟩
theorem argsS_len : ∀ {os : List Opd} {ρ ρa : DEnv}, argsS os ρ = some ρa → ρa.length = os.length
  | [], ρ, ρa, h => by cases h; rfl
  | o' :: os, ρ, ρa, h => by
    unfold argsS at h
    cases h1 : argS o' ρ with
    | none => rw [h1] at h; cases h
    | some x =>
      cases h2 : argsS os ρ with
      | none => rw [h1, h2] at h; cases h
      | some r => rw [h1, h2] at h; cases h; simp [argsS_len h2]
theorem argS_own {o : Opd} {ρ : DEnv} {d : D} (h : argS o ρ = some (some (true, d))) : ∃ i, o = .slot i ∧ ρ[i]? = some (some (true, d)) := by
  cases o with
  | val _ => cases h
  | own _ => cases h
  | slot j =>
    unfold argS at h
    dsimp only at h
    split at h
    · rename_i x hd; cases h; exact ⟨j, rfl, hd⟩
    · cases h
theorem apart_ne : ∀ {os : List Opd} {ρ : DEnv}, apart os ρ = true → ∀ {i j k : Nat} {o o' : Opd}, i < j → os[i]? = some o → os[j]? = some o' → ownIx o ρ = some k → ownIx o' ρ = some k → False
  | [], ρ, h, i, j, k, o, o', _, e, _, _, _ => by simp at e
  | x :: os, ρ, h, i, j, k, o, o', hij, e1, e2, h1, h2 => by
    unfold apart at h
    obtain ⟨ha, hb⟩ := Bool.and_eq_true_iff.mp h
    cases j with
    | zero => omega
    | succ j =>
      cases i with
      | zero =>
        simp at e1; subst e1
        rw [h1] at ha
        have := List.all_eq_true.mp ha o' (List.mem_of_getElem? (by simpa using e2))
        exact (of_decide_eq_true this) h2
      | succ i => exact apart_ne hb (i := i) (j := j) (by omega) (by simpa using e1) (by simpa using e2) h1 h2
/-- what a caller's slot holds behind the call -/
theorem backD_get {ρ ρ' : DEnv} : ∀ {os : List Opd} {k i : Nat} {x : Slot}, (backD ρ ρ' os k)[i]? = some x → (∃ (m : Nat) (o : Opd), os[m]? = some o ∧ ownIx o ρ = some i ∧ x = ρ'[k + m]?.getD none) ∨ ((∀ (m : Nat) (o : Opd), os[m]? = some o → ownIx o ρ ≠ some i) ∧ ρ[i]? = some x)
  | [], k, i, x, h => .inr ⟨fun m o e => by simp at e, h⟩
  | o :: os, k, i, x, h => by
    have tail : (backD ρ ρ' os (k + 1))[i]? = some x → ownIx o ρ ≠ some i → (∃ (m : Nat) (o' : Opd), (o :: os)[m]? = some o' ∧ ownIx o' ρ = some i ∧ x = ρ'[k + m]?.getD none) ∨ ((∀ (m : Nat) (o' : Opd), (o :: os)[m]? = some o' → ownIx o' ρ ≠ some i) ∧ ρ[i]? = some x) := fun h hne => by
      rcases backD_get h with ⟨m, o', e, q, z⟩ | ⟨a, b⟩
      · exact .inl ⟨m + 1, o', by simpa using e, q, by rw [z, Nat.add_assoc, Nat.add_comm 1 m]⟩
      · refine .inr ⟨fun m o' e => ?_, b⟩
        cases m with
        | zero => simp at e; subst e; exact hne
        | succ m => exact a m o' (by simpa using e)
    unfold backD at h
    cases e : ownIx o ρ with
    | none => rw [e] at h; exact tail h (by rw [e]; simp)
    | some n =>
      rw [e] at h
      dsimp only at h
      rcases set_get h with ⟨rfl, q⟩ | ⟨hj, q⟩
      · exact .inl ⟨0, o, rfl, e, q⟩
      · exact tail q (by rw [e]; simpa using Ne.symm hj)
theorem backD_len {ρ ρ' : DEnv} : ∀ {os : List Opd} {k : Nat}, (backD ρ ρ' os k).length = ρ.length
  | [], k => rfl
  | o :: os, k => by
    unfold backD
    split
    · rw [List.length_set]; exact backD_len
    · exact backD_len
section
variable {C : Cn} {Y : Gr} {G : Hp} {σ : St} {H : Hp} {ρ ρa : DEnv} {os : List Opd} {vs : List V}
theorem allOD.get : ∀ {os : List Opd} {vs : List V}, allOD C Y G σ H ρ os vs → ∀ {j : Nat} {o : Opd}, os[j]? = some o → ∃ v, vs[j]? = some v ∧ OD C Y G σ H ρ o v
  | [], vs, h, j, o, e => by simp at e
  | x :: os, vs, h, j, o, e => by
    obtain ⟨v, r, rfl, h1, h2⟩ := h
    cases j with
    | zero => simp at e; subst e; exact ⟨v, rfl, h1⟩
    | succ j =>
      obtain ⟨w, w1, w2⟩ := allOD.get h2 (j := j) (by simpa using e)
      exact ⟨w, by simpa using w1, w2⟩
theorem args_ok (E : ED C Y G σ H ρ) (od : allOD C Y G σ H ρ os vs) (h : argsS os ρ = some ρa) (ha : apart os ρ = true) : ArgD C.b G H vs ρa := by
  have hl := argsS_len h
  have hv := od.len
  have at_ : ∀ {j : Nat} {x : Slot}, ρa[j]? = some x → ∃ o, os[j]? = some o ∧ argS o ρ = some x := fun {j x} e => by
    have hj := (List.getElem?_eq_some_iff.mp e).1
    have ho : os[j]? = some os[j] := List.getElem?_eq_getElem (by omega)
    obtain ⟨y, y1, y2⟩ := argsS_get h ho
    rw [e] at y2; cases y2
    exact ⟨_, ho, y1⟩
  refine ⟨E.sub, by omega, fun j d e => ?_, fun j d e => ?_, fun i j d e p hij h1 h2 h3 h4 => ?_⟩
  · obtain ⟨o, ho, hx⟩ := at_ e
    obtain ⟨v, hv, od'⟩ := od.get ho
    refine ⟨v, hv, ?_⟩
    cases o with
    | val d' => cases hx; exact od'
    | own _ => cases hx
    | slot i =>
      unfold argS at hx
      dsimp only at hx
      split at hx
      · rename_i x hr
        cases hx
        obtain ⟨w, w1, w2⟩ := E.frz i d hr
        have : σ[i]? = some (some v) := od'
        rw [this] at w1; cases w1
        exact w2
      · cases hx
  · obtain ⟨o, ho, hx⟩ := at_ e
    obtain ⟨i, rfl, hr⟩ := argS_own hx
    obtain ⟨v, hv, od'⟩ := od.get ho
    obtain ⟨p, p1, p2, p3, _⟩ := E.own i d hr
    have : σ[i]? = some (some v) := od'
    rw [this] at p1; cases p1
    exact ⟨p, hv, p2, p3⟩
  · obtain ⟨o, ho, hx⟩ := at_ h1
    obtain ⟨o', ho', hx'⟩ := at_ h2
    obtain ⟨m, rfl, hr⟩ := argS_own hx
    obtain ⟨n, rfl, hr'⟩ := argS_own hx'
    obtain ⟨v, hv1, od1⟩ := od.get ho
    obtain ⟨v', hv2, od2⟩ := od.get ho'
    rw [h3] at hv1; cases hv1
    rw [h4] at hv2; cases hv2
    by_cases hmn : m = n
    · subst hmn
      have own : ownIx (.slot m) ρ = some m := by unfold ownIx; dsimp only; rw [hr]
      rcases Nat.lt_or_gt_of_ne hij with q | q
      · exact apart_ne ha q ho ho' own own
      · exact apart_ne ha q ho' ho own own
    · exact E.ap m n d e p hmn hr hr' od1 od2
/-- back in the caller's frame -/
theorem ED.back (E : ED C Y G σ H ρ) (od : allOD C Y G σ H ρ os vs) (h : argsS os ρ = some ρa) {C' : Cn} {G' H' : Hp} {σ' : St} {ρ' : DEnv} (hC : C'.b = C.b) (sg : Sub G G') (E' : ED C' (grA G H vs ρa) G' σ' H' ρ') : ED C Y G' σ H' (backD ρ ρ' os 0) := by
  -- the borrowed cell of argument m
  have bor : ∀ {m i : Nat} {o : Opd}, os[m]? = some o → ownIx o ρ = some i → ∃ p d0, σ[i]? = some (some (.ref p)) ∧ ρ[i]? = some (some (true, d0)) ∧ (m, p) ∈ (grA G H vs ρa).B := fun {m i o} ho hi => by
    obtain ⟨rfl, d, hd⟩ := ownIx_some hi
    obtain ⟨p, p1, _, _, _⟩ := E.own i d hd
    obtain ⟨v, hv, od'⟩ := od.get ho
    have : σ[i]? = some (some v) := od'
    rw [this] at p1; cases p1
    obtain ⟨x, x1, x2⟩ := argsS_get h ho
    unfold argS at x1
    dsimp only at x1
    rw [hd] at x1
    cases x1
    exact ⟨p, d, this, hd, borA_mem.mpr ⟨m, d, by omega, x2, hv⟩⟩
  have unbor : ∀ {j : Nat} {p : Addr}, (j, p) ∈ (grA G H vs ρa).B → ∃ i d, os[j]? = some (.slot i) ∧ ownIx (.slot i) ρ = some i ∧ ρ[i]? = some (some (true, d)) ∧ σ[i]? = some (some (.ref p)) := fun {j p} hb => by
    obtain ⟨m, d, rfl, h1, h2⟩ := borA_mem.mp hb
    rw [Nat.zero_add]
    have hm : m < os.length := by have := argsS_len h; have := (List.getElem?_eq_some_iff.mp h1).1; omega
    have ho : os[m]? = some os[m] := List.getElem?_eq_getElem hm
    obtain ⟨y, y1, y2⟩ := argsS_get h ho
    rw [h1] at y2; cases y2
    obtain ⟨i, e, hr⟩ := argS_own y1
    obtain ⟨v, hv, od'⟩ := od.get ho
    rw [h2] at hv; cases hv
    rw [e] at od' ho
    exact ⟨i, d, ho, by unfold ownIx; dsimp only; rw [hr], hr, od'⟩
  have hold : ∀ {a : Addr} {u : HO}, H a = some u → (∀ j, (j, a) ∉ (grA G H vs ρa).B) → H' a = some u := fun {a u} e hb => E'.old a u e hb
  -- where an owned slot behind the call comes from
  have own0 : ∀ {i : Nat} {d : D}, (backD ρ ρ' os 0)[i]? = some (some (true, d)) → ∃ d0 p, ρ[i]? = some (some (true, d0)) ∧ σ[i]? = some (some (.ref p)) ∧ G' p = none ∧ ownAt C.b G' H' p d ∧ (Y.H0 p = none ∨ (i, p) ∈ Y.B) := fun {i d} e => by
    rcases backD_get e with ⟨m, o, ho, hi, hx⟩ | ⟨hn, hr⟩
    · obtain ⟨p, d0, p1, hd0, hb⟩ := bor ho hi
      rw [Nat.zero_add] at hx
      have hx : ρ'[m]? = some (some (true, d)) := by
        cases q : ρ'[m]? with
        | none => rw [q] at hx; cases hx
        | some y => rw [q] at hx; rw [hx]; rfl
      obtain ⟨b1, _, _⟩ := E'.bor m p hb
      obtain ⟨q, q1, q2, q3, _⟩ := E'.own m d hx
      rw [b1] at q1; cases q1
      obtain ⟨q', q1', _, _, q4⟩ := E.own i d0 hd0
      rw [p1] at q1'; cases q1'
      exact ⟨d0, p, hd0, p1, q2, hC ▸ q3, q4⟩
    · obtain ⟨p, p1, p2, p3, p4⟩ := E.own i d hr
      obtain ⟨u, hu⟩ := p3.some
      have nb : ∀ j, (j, p) ∉ (grA G H vs ρa).B := fun j hb => by
        obtain ⟨i', d', ho, hi, hr', hs⟩ := unbor hb
        have hne : i ≠ i' := fun z => hn j _ ho (z ▸ hi)
        exact E.ap i i' d d' p hne hr hr' p1 hs
      have hH := hold hu nb
      refine ⟨d, p, hr, p1, ?_, p3.mono sg (hH.trans hu.symm), p4⟩
      cases q : G' p with
      | none => rfl
      | some w =>
        rcases E'.fz p w q with z | z | ⟨j, z⟩
        · have z' : H p = none := z
          rw [hu] at z'; cases z'
        · have z' : G p = some w := z
          rw [p2] at z'; cases z'
        · exact (nb j z).elim
  refine ⟨E'.sub, fun i d e => ?_, fun i d e => ?_, fun i j d e p hij h1 h2 h3 h4 => ?_, by rw [backD_len]; exact E.len, fun i p hb => ?_, fun a u e hb => ?_, fun a u e => ?_, E.g0.trans sg⟩
  · rcases backD_get e with ⟨m, o, ho, hi, hx⟩ | ⟨hn, hr⟩
    · obtain ⟨p, d0, p1, hd0, hb⟩ := bor ho hi
      rw [Nat.zero_add] at hx
      have hx : ρ'[m]? = some (some (false, d)) := by
        cases q : ρ'[m]? with
        | none => rw [q] at hx; cases hx
        | some y => rw [q] at hx; rw [hx]; rfl
      obtain ⟨b1, _, _⟩ := E'.bor m p hb
      obtain ⟨w, w1, w2⟩ := E'.frz m d hx
      rw [b1] at w1; cases w1
      exact ⟨_, p1, hC ▸ w2⟩
    · obtain ⟨w, w1, w2⟩ := E.frz i d hr
      exact ⟨w, w1, den.mono sg _ _ w2⟩
  · obtain ⟨d0, p, _, p1, p2, p3, p4⟩ := own0 e
    exact ⟨p, p1, p2, p3, p4⟩
  · obtain ⟨d1, p1, a1, _⟩ := own0 h1
    obtain ⟨d2, p2, a2, _⟩ := own0 h2
    exact E.ap i j d1 d2 p hij a1 a2 h3 h4
  · obtain ⟨h1, hn, b, d, h2, hc, h3⟩ := E.bor i p hb
    have hlt : i < (backD ρ ρ' os 0).length := by rw [backD_len]; exact (List.getElem?_eq_some_iff.mp h2).1
    rcases backD_get (List.getElem?_eq_getElem hlt) with ⟨m, o, ho, hi, hx⟩ | ⟨hne, hr⟩
    · obtain ⟨p', d0, p1, hd0, hb'⟩ := bor ho hi
      rw [h1] at p1; cases p1
      obtain ⟨b1, _, b', d', b2, bc, b3⟩ := E'.bor m p hb'
      rw [Nat.zero_add, b2] at hx
      exact ⟨h1, hn, b', d', by rw [List.getElem?_eq_getElem hlt, hx]; rfl, bc, b3⟩
    · rw [h2] at hr
      refine ⟨h1, hn, b, d, by rw [List.getElem?_eq_getElem hlt, ← hr], hc, ?_⟩
      rcases h3 with h3 | ⟨u, h3⟩
      · exact .inl h3
      · exact .inr ⟨u, sg _ _ h3⟩
  · refine hold (E.old a u e hb) fun j hj => ?_
    obtain ⟨i, d, _, _, hr, hs⟩ := unbor hj
    obtain ⟨q, q1, _, _, q4⟩ := E.own i d hr
    rw [hs] at q1; cases q1
    rcases q4 with q4 | q4
    · rw [q4] at e; cases e
    · exact hb i q4
  · rcases E'.fz a u e with z | z | ⟨j, z⟩
    · exact .inl (E.h0 z)
    · exact E.fz a u z
    · obtain ⟨i, d, _, _, hr, hs⟩ := unbor z
      obtain ⟨q, q1, _, _, q4⟩ := E.own i d hr
      rw [hs] at q1; cases q1
      rcases q4 with q4 | q4
      · exact .inl q4
      · exact .inr (.inr ⟨i, q4⟩)
end
section
variable {X : Cx} {C : Cn} {W : WX} {np nN : Nat} {m : M Fl} {fs : List (M Opd)}
theorem tCallD_of {σ : St} {H : Hp} {Q : VK} {t : TA} (ht : t = tA C W (eA fs)) (h : tE C W (eCall np nN m fs) σ H Q) : tCallD (spM C.b np nN m) W t σ H Q := by
  subst ht
  obtain ⟨Y, G, ρ, E, p⟩ := h
  refine seqAp (C := C) Post.lk E p fun G1 H1 ρ1 os vs s1 pl E1 ods p1 => ?_
  unfold callM at p1
  cases ha : argsS os ρ1 with
  | none => rw [ha] at p1; exact p1.elim
  | some ρa =>
    rw [ha] at p1
    dsimp only at p1
    split at p1
    · rename_i hh
      obtain ⟨hnp, hap⟩ := hh
      have A := args_ok E1 ods ha hap
      refine ⟨by rw [← ods.len]; exact hnp, G1, ρa, A, ?_⟩
      cases hm : m (startD nN ρa) with
      | bad => rw [hm] at p1; exact p1
      | exc c d ρ' =>
        rw [hm] at p1
        exact fun T dx G' σ' H' hc s E' x => p1 T dx G' H' hc s (E1.back ods ha (C' := ⟨C.b, np⟩) rfl s E') x
      | ok fl ρ' =>
        rw [hm] at p1
        cases fl with
        | nx => exact fun G' σ' H' s E' => p1 G' H' .non s (E1.back ods ha (C' := ⟨C.b, np⟩) rfl s E') (by unfold OD den; rfl)
        | bk => exact p1.elim
        | ct => exact p1.elim
        | rt o =>
          cases o with
          | slot i => exact p1.elim
          | val d => exact fun G' σ' H' v s E' od => p1 G' H' v s (E1.back ods ha (C' := ⟨C.b, np⟩) rfl s E') od
          | own d =>
            intro G' σ' H' v s E' od
            obtain ⟨q, rfl, gn, oa, h0, nr⟩ := od
            have Eb := E1.back ods ha (C' := ⟨C.b, np⟩) rfl s E'
            refine p1 G' H' _ s Eb ⟨q, rfl, gn, oa, E1.h0 h0, fun i e hi hs => ?_⟩
            -- its address was free when the call began
            have h0' : H1 q = none := h0
            rcases backD_get hi with ⟨m', o', ho, hix, hx⟩ | ⟨hn, hr⟩
            · obtain ⟨rfl, d0, hd0⟩ := ownIx_some hix
              obtain ⟨p', p1', _, p3, _⟩ := E1.own i d0 hd0
              rw [hs] at p1'; cases p1'
              obtain ⟨u, hu⟩ := p3.some
              rw [h0'] at hu; cases hu
            · obtain ⟨p', p1', _, p3, _⟩ := E1.own i e hr
              rw [hs] at p1'; cases p1'
              obtain ⟨u, hu⟩ := p3.some
              rw [h0'] at hu; cases hu
    · exact p1.elim
variable {k : Nat} {f : Addr} {fd : FuncData} {ps : List Str} {x : Str} {p pos : Pos} {e : Expr} {es : List Expr}
theorem de_call (hr : Room k X.A) (hgd : X.A.guards = some []) (F : FnD X.prog X.w X.K X.mg X.base k f fd ps (spM C.b np nN m)) (hg : Gl X x) (hm : X.mg x = some (.ref f)) (hk : PySem.W.keepIn X.K (.ref f) = true) (hb : Binds X.K fd ps []) (tk : TkC X W)
    (ha : PA X (e :: es) (tA C W (eA fs))) (hdb : (x == ("__debug__" : Str)) = false := by decide) (he : starEach (e :: es) X.env = (false, eval e X.env) :: starEach es X.env := by rfl) (hpl : (backTo pos (starEach es X.env)).any (·.1) = false := by rfl) :
    PE X (.Call (.Name x p) (e :: es) [] pos) (tE C W (eCall np nN m fs)) :=
  PE.st (pe_callD F hr hgd hg hm hk hb tk ha hdb he hpl) fun _ _ _ h => tCallD_of rfl h
theorem tNil_of {σ : St} {H : Hp} {Q : List V → Hp → Prop} (h : tA C W (eA []) σ H Q) : tNil σ H Q := by
  obtain ⟨Y, G, ρ, E, p⟩ := h
  exact p G H [] Sub.rfl E rfl
theorem de_call0 (hr : Room k X.A) (hgd : X.A.guards = some []) (F : FnD X.prog X.w X.K X.mg X.base k f fd ps (spM C.b np nN m)) (hg : Gl X x) (hm : X.mg x = some (.ref f)) (hk : PySem.W.keepIn X.K (.ref f) = true) (hb : Binds X.K fd ps []) (tk : TkC X W)
    (hdb : (x == ("__debug__" : Str)) = false := by decide) : PE X (.Call (.Name x p) [] [] pos) (tE C W (eCall np nN m [])) :=
  PE.st (pe_callD0 F hr hgd hg hm hk hb tk hdb) fun σ H Q h => tNil_of (tCallD_of (fs := []) rfl h)
end
/-- a def keeps the promise of its mirror -/
theorem fnM_of {P : Program} {w : World} {K : PySem.W.Frag} {mg : Str → Option Value} {base : Heap} {k : Nat} {f : Addr} {name qual : Str} {params : Arguments} {body : List Stmt} {scope : Scope} {fd : FuncData}
    {N ps : List Str} {b : Cb} {m : M Fl} (F : FunD K name qual params body scope [] [] f fd) (S : FnScope N ps scope)
    (hbody : ∀ (cdv : Value) (A : Around) (outer : List Env) (s : Shared) (H : Hp) (E : XK), Room k (A.deeper (envOfC qual scope s.heap.objs.size f cdv)) → A.guards = some [] →
      PSs (cxOf (CX P w) P w K mg base N qual scope f cdv A outer s H E) body (tS ⟨b, ps.length⟩ (fun T dx _ H' => E T dx H') m)) :
    FnD P w K mg base (k + 1) f fd ps (spM b ps.length N.length m) := by
  obtain ⟨oc, od, dV, kV, doc, pm, an, cdv, ct, osl, rfl, lk, hcd, _, _⟩ := F.ex
  refine fnD_of lk hcd S (fun vs H Q E h => h.1) fun A outer s H vs Q E hr hgd hsp => ?_
  obtain ⟨hl, G, ρa, a, p⟩ := hsp
  refine ⟨_, hbody cdv A outer s H E hr hgd, grA G H vs ρa, G, startD N.length ρa, ?_, p⟩
  have := a.start N
  rw [hl] at this
  exact this
end DL

set_option Elab.async false
set_option linter.all false
set_option maxRecDepth 100000
set_option maxHeartbeats 1000000
/-! The data layer: the law's own call. -/
namespace DL
open PySem PySem.Spec L2
open PyProof.Rows hiding St

/-- what is tracked when the law begins: the script, unless it is one of the module's own objects -/
theorem script_hp {P : Program} {w : World} {K : PySem.W.Frag} {h : Heap} {a : Addr} {vs : List Value} {ns : List Int} (X : K.In h) (ha : h.get? a = some { cls := .type "list", data := .seq vs.toArray }) (hi : IntsAre vs ns) (hl : ns.length ≤ sizeLine) :
    ∃ H : Hp, Only H ∧ SqL K H a (ns.map V.int) ∧ HOk P w H h ∧ (∀ b, H b ≠ none → b = a) ∧ (H a ≠ none → K.lookup a = none) := by
  have rv := vals_ints hi
  have ln := hi.length
  by_cases hk : K.lookup a = none
  · let o : Obj := { cls := .type "list", data := .seq vs.toArray }
    have at_ : ∀ {b : Addr} {u : HO}, (if b = a then some (HO.frz o (.lst (ns.map V.int))) else none) = some u → b = a ∧ u = .frz o (.lst (ns.map V.int)) := fun {b u} z => by
      split at z
      · rename_i e; cases z; exact ⟨e, rfl⟩
      · cases z
    refine ⟨fun b => if b = a then some (.frz o (.lst (ns.map V.int))) else none, fun b => ?_, .inl (.inr ⟨o, if_pos rfl⟩), fun b u z => ?_, fun b z => ?_, fun _ => hk⟩
    · by_cases e : b = a
      · exact .inr ⟨o, _, if_pos e⟩
      · exact .inl (if_neg e)
    · obtain ⟨rfl, rfl⟩ := at_ z
      exact ⟨ha, by rw [List.length_map]; exact hl, vs, _, rv, ha⟩
    · by_cases e : b = a
      · exact e
      · exact (z (if_neg e)).elim
  · obtain ⟨u, hu⟩ := Option.ne_none_iff_exists'.mp hk
    have e := X a u hu
    rw [ha] at e
    cases e
    exact ⟨fun _ => none, fun _ => .inl rfl, .inr ⟨_, vs.toArray, _, hu, rfl, rfl, rfl, by rw [List.size_toArray, ln]; exact hl, by simpa using rv⟩, fun b u z => (nomatch z), fun b z => (z rfl).elim, fun z => (z rfl).elim⟩
theorem law_callD {P : Program} {w : World} {K : PySem.W.Frag} {mg mb : Str → Option Value} {k : Nat} {fa a : Addr} {fd : FuncData} {x : Str} {sp : Sp} {t : Shared} {vs : List Value} {ns : List Int}
    (X : K.In t.heap) (g1 : t.heap.Ns mainGlobals mg) (g2 : t.heap.Ns builtinsNs mb) (g3 : ∀ x : Str, x ≠ "__name__" → mb x = bootBuiltins x) (g4 : t.heap.NoLimit) (g5 : t.gens = #[])
    (ha : t.heap.get? a = some { cls := .type "list", data := .seq vs.toArray }) (hi : IntsAre vs ns) (hl : ns.length ≤ sizeLine) (hr : Room k callerA)
    (F : ∀ base : Heap, K.In base → FnD P w K mg base k fa fd [x] sp) (hbind : ∀ (s : Shared) (u : Value), BindsTo s fd ⟨[u], []⟩ [(x, u)])
    (hsp : ∀ H : Hp, Only H → SqL K H a (ns.map V.int) → sp [.ref a] H (fun v _ => v = .bl true) fun _ _ _ => False) :
    codeAny (model P w) callerA (.call (.ref fa) ⟨[.ref a], []⟩) (fun r s' => r = .ok (.ret (.bool true)) ∧ OldK t.heap s'.heap ∧ s'.os = t.os ∧ AllBare s'.gens) t := by
  obtain ⟨H, hO, hS, hok, hA, hK⟩ := script_hp (P := P) (w := w) X ha hi hl
  have isA : ∀ {b : Addr} {u : HO}, H b = some u → b = a := fun {b u} q => hA b (by rw [q]; exact fun z => nomatch z)
  have free : ∀ {b : Addr} {o : Obj}, t.heap.get? b = some o → (∀ es ep, o.data ≠ .dict es ep) ∨ H b = none := fun {b o} e => by
    cases q : H b with
    | none => exact .inr rfl
    | some u =>
      have := isA q
      subst this
      rw [ha] at e
      cases e
      exact .inl fun es ep z => nomatch z
  have ns_ : ∀ {b : Addr} {m : Str → Option Value}, t.heap.Ns b m → (hidT t.heap H).Ns b m := fun {b m} ⟨o, es, ep, e, d, r⟩ => ⟨o, es, ep, hidT_get e ((free e).resolve_left fun z => z _ _ d), d, r⟩
  have kb : K.In (hidT t.heap H) := fun b o e => hidT_get (X b o e) (by
    cases q : H b with
    | none => rfl
    | some u =>
      have := isA q
      subst this
      rw [hK (by rw [q]; exact fun z => nomatch z)] at e; cases e)
  obtain ⟨mc, c1, c2⟩ := g4
  have e0 : Env0 P w K mg (hidT t.heap H) callerA [] t H := ⟨rfl, ⟨kb, ns_ g1, ⟨mb, ns_ g2, g3⟩, ⟨mc, ns_ c1, c2⟩⟩, fun _ _ e => of_hidT e, Nat.le_of_eq (hidT_size _ _), trivial, fun b z => absurd (show b ∈ ([] : List Addr) from z) (fun z => nomatch z), hok, .of_eq g5⟩
  refine codeAny_mono ((F _ kb).go callerA [] t H ⟨[.ref a], []⟩ [.ref a] [.ref a] _ _ hr rfl e0 (hbind t (.ref a)) (.cons rfl .nil) (hsp H hO hS)) fun r s' h => ?_
  match r, h with
  | .error e, h =>
    obtain ⟨_, _, _, _, _, _, _, _, _, _, _, _, z⟩ := h
    exact z.elim
  | .ok (.ret u), h =>
    obtain ⟨v, H', os, bare, un, hok', rv, q⟩ := h
    have q' : v = .bl true := q
    subst q'
    obtain rfl : u = Value.bool true := rv
    refine ⟨rfl, OldK.of_keep fun b o e => ?_, os, bare⟩
    cases q : H b with
    | none => exact un.keep b o e q (fun z => absurd (show b ∈ ([] : List Addr) from z) fun z => nomatch z) (fun z => nomatch z)
    | some u =>
      rcases hO b with z | ⟨ob, ys, z⟩
      · rw [q] at z; cases z
      · have e1 := (hok b _ z).1
        have e2 := (hok' b _ (un.frzs b ob _ z)).1
        rw [e] at e1; cases e1
        exact e2
/-- a law over the data layer: what the top's facts give -/
theorem walk_D {l : PySem.W.OpenLaw} {n k : Nat} {q : Program} {loose : List Str} {XP : (Str → Option Value) → Heap → Prop} {YP : World → Heap → Prop} {d : DefRec} {x : Str}
    (hn : l.most = some n) (hn2 : n ≤ sizeLine) (hdf : d.params.defaults = []) (hr : Room k callerA)
    (F : ∀ (w : World) (mg : Str → Option Value) (fa : Addr) (h : Heap), YP w h → h.Ns mainGlobals mg → mg d.name = some (.ref fa) →
      ∃ (K : PySem.W.Frag) (fd : FuncData) (sp : Sp), K.In h ∧ (∀ (s : Shared) (u : Value), BindsTo s fd ⟨[u], []⟩ [(x, u)]) ∧
        (∀ (H : Hp) (a : Addr) (ns : List Int), ns.length ≤ n → SqL K H a (ns.map V.int) → sp [.ref a] H (fun v _ => v = .bl true) fun _ _ _ => False) ∧
        ∀ base : Heap, K.In base → FnD l.prog w K mg base k fa fd [x] sp) :
    PySem.W.WalkO q loose XP YP l.row.toRowW d [] (fun f vs => PySem.call f vs) :=
  Att.attach_call hn hdf fun w s₀ t mg mb fa o pm cd doc a vs ns G Y ho hd hcd hmg hobj hints hlen hg => by
    obtain ⟨K, fd, sp, X, hb, hs, F⟩ := F w mg fa _ Y G.T.g hmg
    exact law_callD X G.T.g G.T.b G.T.builtins G.T.nolimit hg hobj hints (Nat.le_trans hlen hn2) hr F hb fun H _ hS => hs H a ns hlen hS
/-- a def of the law, from its mirror: true at every script -/
theorem sp_law {b : Cb} {K : PySem.W.Frag} (hK : b.K = K) {nN n : Nat} {m : M Fl} (h : ∀ ns : List Int, ns.length ≤ n → ∃ ρ, m (startD nN [some (false, .scr ns)]) = .ok (.rt (.val (.bl true))) ρ) (H : Hp) (a : Addr) (ns : List Int) (hl : ns.length ≤ n) (hS : SqL K H a (ns.map V.int)) :
    spM b 1 nN m [.ref a] H (fun v _ => v = .bl true) fun _ _ _ => False := by
  subst hK
  refine ⟨rfl, H, [some (false, .scr ns)], ⟨Sub.rfl, rfl, fun j d e => ?_, fun j d e => ?_, fun i j d e p hij h1 => ?_⟩, ?_⟩
  · cases j with
    | zero => cases e; exact ⟨_, rfl, by unfold den; exact ⟨a, rfl, hS⟩⟩
    | succ j => simp at e
  · cases j with
    | zero => cases e
    | succ j => simp at e
  · cases i with
    | zero => cases h1
    | succ j => simp at h1
  · obtain ⟨ρ, e⟩ := h ns hl
    rw [e]
    intro G' σ' H' v s E od
    have od' : den b G' (.bl true) v := od
    unfold den at od'
    exact od'
end DL

set_option Elab.async false
set_option linter.all false
set_option maxRecDepth 100000
set_option maxHeartbeats 1000000
/-! The data layer: short words for what is written. -/
namespace DL
open PySem PySem.Spec L2
open PyProof.Rows hiding St

/-- what the top leaves -/
structure Tp (P : Program) (K : PySem.W.Frag) (mg : Str → Option Value) (base : Heap) (errs fr : List Str) : Prop where
  err : ErrC P ⟨⟨K, mg, errs⟩, 0⟩
  sm : ∃ o, base.get? sysModules = some o
  free : ∀ x ∈ fr, mg x = none
/-- what a body knows -/
structure Bd (X : Cx) (C : Cn) (W : WX) (k : Nat) (fr : List Str) : Prop where
  ct : Ct X C
  rm : Room k X.A
  tk : TkC X W
  hc : X.calm = true
  nd : X.N.Nodup
  free : ∀ x ∈ fr, X.mg x = none
theorem Bd.blk {X : Cx} {C : Cn} {W : WX} {k : Nat} {fr : List Str} (B : Bd X C W k fr) {s : Shared} {H : Hp} {scope : Scope} {ce : Env} {fp : List Addr} : Bd (X.blk s H scope ce fp) C WF k fr :=
  ⟨⟨B.ct.k, B.ct.mg, B.ct.err, B.ct.gd, B.ct.sm⟩, B.rm, TkC.none, B.hc, B.nd, B.free⟩
/-- a def that is called -/
structure Cal (P : Program) (w : World) (K : PySem.W.Frag) (mg : Str → Option Value) (base : Heap) (k : Nat) (b : Cb) (x : Str) (np nN : Nat) (m : M Fl) : Prop where
  ex : ∃ f fd ps, FnD P w K mg base k f fd ps (spM b np nN m) ∧ mg x = some (.ref f) ∧ PySem.W.keepIn K (.ref f) = true ∧ Binds K fd ps []
theorem Cal.mono {P : Program} {w : World} {K : PySem.W.Frag} {mg : Str → Option Value} {base : Heap} {j k : Nat} {b : Cb} {x : Str} {np nN : Nat} {m : M Fl} (c : Cal P w K mg base j b x np nN m) (h : j ≤ k) : Cal P w K mg base k b x np nN m := by
  obtain ⟨f, fd, ps, F, r⟩ := c.ex
  exact ⟨f, fd, ps, F.mono h, r⟩
theorem Cal.of {P : Program} {w : World} {K : PySem.W.Frag} {mg : Str → Option Value} {base : Heap} {k : Nat} {f : Addr} {name qual : Str} {params : Arguments} {body : List Stmt} {scope : Scope} {fd : FuncData} {errs fr : List Str}
    {N ps : List Str} {m : M Fl} (T : Tp P K mg base errs fr) (F : FunD K name qual params body scope [] [] f fd) (hm : mg name = some (.ref f)) (S : FnScope N ps scope) (hb : Binds K fd ps [])
    (hbody : ∀ (X : Cx) (W : WX) (cdv : Value) (A : Around) (outer : List Env) (s : Shared) (H : Hp) (E : XK), X = cxOf (CX P w) P w K mg base N qual scope f cdv A outer s H E → Bd X ⟨⟨K, mg, errs⟩, ps.length⟩ W k fr → PassesOwn (model X.prog X.w) X.A X.env X.xe → PSs X body (tS ⟨⟨K, mg, errs⟩, ps.length⟩ W m)) :
    FnD P w K mg base (k + 1) f fd ps (spM ⟨K, mg, errs⟩ ps.length N.length m) ∧ Cal P w K mg base (k + 1) ⟨K, mg, errs⟩ name ps.length N.length m := by
  have F' : FnD P w K mg base (k + 1) f fd ps (spM ⟨K, mg, errs⟩ ps.length N.length m) := fnM_of F S fun cdv A outer s H E hr hgd => by
    refine hbody _ _ cdv A outer s H E rfl ?_ (passes_of rfl)
    refine ⟨⟨rfl, rfl, ?_, hgd, T.sm⟩, hr, TkC.of (takes_of (X := cxOf (CX P w) P w K mg base N qual scope f cdv A outer s H E) (E := E) rfl rfl rfl rfl), rfl, S.nd, T.free⟩
    obtain ⟨h⟩ := T.err
    exact ⟨h⟩
  exact ⟨F', f, fd, ps, F', hm, F.kp, hb⟩
section
variable {X : Cx} {C : Cn} {W : WX} {k : Nat} {fr : List Str} {a b e : Expr} {es : List Expr} {f g : M Opd} {fs : List (M Opd)} {p p2 pos : Pos}
/-! operators -/
theorem wAdd (B : Bd X C W k fr) (ha : PE X a (tE C W f)) (hb : PE X b (tE C W g)) : PE X (.BinOp a .Add b pos) (tE C W (e2 f g addF)) := pe_op2 op_addAll (addD B.ct.k) ha hb
theorem wSub (B : Bd X C W k fr) (ha : PE X a (tE C W f)) (hb : PE X b (tE C W g)) : PE X (.BinOp a .Sub b pos) (tE C W (e2 f g subF)) := pe_op2 op_sub subD ha hb
theorem wMul (B : Bd X C W k fr) (ha : PE X a (tE C W f)) (hb : PE X b (tE C W g)) : PE X (.BinOp a .Mult b pos) (tE C W (e2 f g mulF)) := pe_op2 op_mulW mulD ha hb
theorem wDiv (B : Bd X C W k fr) (ha : PE X a (tE C W f)) (hb : PE X b (tE C W g)) : PE X (.BinOp a .FloorDiv b pos) (tE C W (e2 f g divF)) := pe_op2 op_fdivW divD ha hb
theorem wMod (B : Bd X C W k fr) (ha : PE X a (tE C W f)) (hb : PE X b (tE C W g)) : PE X (.BinOp a .Mod b pos) (tE C W (e2 f g modF)) := pe_op2 op_mod modD ha hb
theorem wPow (B : Bd X C W k fr) (ha : PE X a (tE C W f)) (hb : PE X b (tE C W g)) : PE X (.BinOp a .Pow b pos) (tE C W (e2 f g powF)) := pe_op2 op_powB powD ha hb
theorem wNeg (B : Bd X C W k fr) (ha : PE X a (tE C W f)) : PE X (.UnaryOp .USub a pos) (tE C W (e1 f negF)) := pe_un1 un_neg negD ha
theorem wLt (B : Bd X C W k fr) (ha : PE X a (tE C W f)) (hb : PE X b (tE C W g)) (hm : behindInMarks .Lt b = false := by rfl) : PE X (.Compare a [.Lt] [b] pos) (tE C W (e2 f g ltF)) := pe_cmp2 op_lt ltD ha hb hm
theorem wLe (B : Bd X C W k fr) (ha : PE X a (tE C W f)) (hb : PE X b (tE C W g)) (hm : behindInMarks .LtE b = false := by rfl) : PE X (.Compare a [.LtE] [b] pos) (tE C W (e2 f g leF)) := pe_cmp2 op_le leD ha hb hm
theorem wGt (B : Bd X C W k fr) (ha : PE X a (tE C W f)) (hb : PE X b (tE C W g)) (hm : behindInMarks .Gt b = false := by rfl) : PE X (.Compare a [.Gt] [b] pos) (tE C W (e2 f g gtF)) := pe_cmp2 op_gt gtD ha hb hm
theorem wGe (B : Bd X C W k fr) (ha : PE X a (tE C W f)) (hb : PE X b (tE C W g)) (hm : behindInMarks .GtE b = false := by rfl) : PE X (.Compare a [.GtE] [b] pos) (tE C W (e2 f g geF)) := pe_cmp2 op_ge geD ha hb hm
theorem wEq (B : Bd X C W k fr) (ha : PE X a (tE C W f)) (hb : PE X b (tE C W g)) (hm : behindInMarks .Eq b = false := by rfl) : PE X (.Compare a [.Eq] [b] pos) (tE C W (e2 f g eqF)) := pe_cmp2 (op_eqD B.rm.units) (eqD B.ct.k) ha hb hm
theorem wNe (B : Bd X C W k fr) (ha : PE X a (tE C W f)) (hb : PE X b (tE C W g)) (hm : behindInMarks .NotEq b = false := by rfl) : PE X (.Compare a [.NotEq] [b] pos) (tE C W (e2 f g neF)) := pe_cmp2 (op_neD B.rm.units) (neD B.ct.k) ha hb hm
theorem xLt (B : Bd X C W k fr) (ha : PE X a (tE C W f)) (hb : PE X b (tE C W g)) (hm : behindInMarks .Lt b = false := by rfl) : PT X (.Compare a [.Lt] [b] pos) (tT C W (tV (e2 f g ltF))) := pt_cmp2 op_lt ltD ha hb hm
theorem xLe (B : Bd X C W k fr) (ha : PE X a (tE C W f)) (hb : PE X b (tE C W g)) (hm : behindInMarks .LtE b = false := by rfl) : PT X (.Compare a [.LtE] [b] pos) (tT C W (tV (e2 f g leF))) := pt_cmp2 op_le leD ha hb hm
theorem xGt (B : Bd X C W k fr) (ha : PE X a (tE C W f)) (hb : PE X b (tE C W g)) (hm : behindInMarks .Gt b = false := by rfl) : PT X (.Compare a [.Gt] [b] pos) (tT C W (tV (e2 f g gtF))) := pt_cmp2 op_gt gtD ha hb hm
theorem xGe (B : Bd X C W k fr) (ha : PE X a (tE C W f)) (hb : PE X b (tE C W g)) (hm : behindInMarks .GtE b = false := by rfl) : PT X (.Compare a [.GtE] [b] pos) (tT C W (tV (e2 f g geF))) := pt_cmp2 op_ge geD ha hb hm
theorem xEq (B : Bd X C W k fr) (ha : PE X a (tE C W f)) (hb : PE X b (tE C W g)) (hm : behindInMarks .Eq b = false := by rfl) : PT X (.Compare a [.Eq] [b] pos) (tT C W (tV (e2 f g eqF))) := pt_cmp2 (op_eqD B.rm.units) (eqD B.ct.k) ha hb hm
theorem xNe (B : Bd X C W k fr) (ha : PE X a (tE C W f)) (hb : PE X b (tE C W g)) (hm : behindInMarks .NotEq b = false := by rfl) : PT X (.Compare a [.NotEq] [b] pos) (tT C W (tV (e2 f g neF))) := pt_cmp2 (op_neD B.rm.units) (neD B.ct.k) ha hb hm
theorem wIx (B : Bd X C W k fr) (ha : PE X a (tE C W f)) (hb : PE X b (tE C W g)) (hs : PlainIx b := by intro _ _; rfl) : PE X (.Subscript a b pos) (tE C W (e2 f g ixF)) := de_ix B.ct.k ha hb hs
/-! built-ins -/
theorem boot_b {x : Str} {v : Value} (h : (match bootBuiltins x with | some u => decide (u = v) | none => false) = true) : bootBuiltins x = some v := by
  split at h
  · rename_i u e; rw [e, of_decide_eq_true h]
  · cases h
theorem bo_len : bootBuiltins "len" = some (.builtin "len") := by kernel_rfl
theorem bo_abs : bootBuiltins "abs" = some (.builtin "abs") := by kernel_rfl
theorem bo_max : bootBuiltins "max" = some (.builtin "max") := by kernel_rfl
theorem bo_min : bootBuiltins "min" = some (.builtin "min") := by kernel_rfl
theorem bo_any : bootBuiltins "any" = some (.builtin "any") := by kernel_rfl
theorem bo_all : bootBuiltins "all" = some (.builtin "all") := by kernel_rfl
theorem bo_sum : bootBuiltins "sum" = some (.builtin "sum") := by kernel_rfl
theorem bo_repr : bootBuiltins "repr" = some (.builtin "repr") := by kernel_rfl
theorem bo_int : bootBuiltins "int" = some (.type "int") := by kernel_rfl
theorem bo_str : bootBuiltins "str" = some (.type "str") := by kernel_rfl
theorem bo_bool : bootBuiltins "bool" = some (.type "bool") := by kernel_rfl
theorem bo_list : bootBuiltins "list" = some (.type "list") := by kernel_rfl
theorem bo_tuple : bootBuiltins "tuple" = some (.type "tuple") := by kernel_rfl
theorem bo_VE : bootBuiltins "ValueError" = some (.type "ValueError") := by kernel_rfl
theorem wLen (B : Bd X C W k fr) (ha : PA X (e :: es) (tA C W (eA fs))) (hx : ("len" : Str) ∈ fr := by decide) (hg : Gl X "len" := by rfl) (he : starEach (e :: es) X.env = (false, eval e X.env) :: starEach es X.env := by rfl) (hpl : (backTo pos (starEach es X.env)).any (·.1) = false := by rfl) :
    PE X (.Call (.Name "len" p) (e :: es) [] pos) (tE C W (eB fs lenF)) := de_callB call_len (lenD B.ct.k) hg (B.free _ hx) bo_len ha (by decide) (by decide) he hpl
theorem wAbs (B : Bd X C W k fr) (ha : PA X (e :: es) (tA C W (eA fs))) (hx : ("abs" : Str) ∈ fr := by decide) (hg : Gl X "abs" := by rfl) (he : starEach (e :: es) X.env = (false, eval e X.env) :: starEach es X.env := by rfl) (hpl : (backTo pos (starEach es X.env)).any (·.1) = false := by rfl) :
    PE X (.Call (.Name "abs" p) (e :: es) [] pos) (tE C W (eB fs absF)) := de_callB call_abs absD hg (B.free _ hx) bo_abs ha (by decide) (by decide) he hpl
theorem wMax (B : Bd X C W k fr) (ha : PA X (e :: es) (tA C W (eA fs))) (hx : ("max" : Str) ∈ fr := by decide) (hg : Gl X "max" := by rfl) (he : starEach (e :: es) X.env = (false, eval e X.env) :: starEach es X.env := by rfl) (hpl : (backTo pos (starEach es X.env)).any (·.1) = false := by rfl) :
    PE X (.Call (.Name "max" p) (e :: es) [] pos) (tE C W (eB fs maxF)) := de_callB (call_max2 B.hc) maxD hg (B.free _ hx) bo_max ha (by decide) (by decide) he hpl
theorem wMin (B : Bd X C W k fr) (ha : PA X (e :: es) (tA C W (eA fs))) (hx : ("min" : Str) ∈ fr := by decide) (hg : Gl X "min" := by rfl) (he : starEach (e :: es) X.env = (false, eval e X.env) :: starEach es X.env := by rfl) (hpl : (backTo pos (starEach es X.env)).any (·.1) = false := by rfl) :
    PE X (.Call (.Name "min" p) (e :: es) [] pos) (tE C W (eB fs minF)) := de_callB (call_min2 B.hc) minD hg (B.free _ hx) bo_min ha (by decide) (by decide) he hpl
theorem wAny (B : Bd X C W k fr) (ha : PA X (e :: es) (tA C W (eA fs))) (hx : ("any" : Str) ∈ fr := by decide) (hg : Gl X "any" := by rfl) (he : starEach (e :: es) X.env = (false, eval e X.env) :: starEach es X.env := by rfl) (hpl : (backTo pos (starEach es X.env)).any (·.1) = false := by rfl) :
    PE X (.Call (.Name "any" p) (e :: es) [] pos) (tE C W (eB fs anyF)) := de_callB (cr_any B.hc) (anyD B.ct.k) hg (B.free _ hx) bo_any ha (by decide) (by decide) he hpl
theorem wAll (B : Bd X C W k fr) (ha : PA X (e :: es) (tA C W (eA fs))) (hx : ("all" : Str) ∈ fr := by decide) (hg : Gl X "all" := by rfl) (he : starEach (e :: es) X.env = (false, eval e X.env) :: starEach es X.env := by rfl) (hpl : (backTo pos (starEach es X.env)).any (·.1) = false := by rfl) :
    PE X (.Call (.Name "all" p) (e :: es) [] pos) (tE C W (eB fs allF)) := de_callB (cr_all B.hc) (allD B.ct.k) hg (B.free _ hx) bo_all ha (by decide) (by decide) he hpl
theorem wSum (B : Bd X C W k fr) (ha : PA X (e :: es) (tA C W (eA fs))) (hx : ("sum" : Str) ∈ fr := by decide) (hg : Gl X "sum" := by rfl) (he : starEach (e :: es) X.env = (false, eval e X.env) :: starEach es X.env := by rfl) (hpl : (backTo pos (starEach es X.env)).any (·.1) = false := by rfl) :
    PE X (.Call (.Name "sum" p) (e :: es) [] pos) (tE C W (eB fs sumF)) := de_callB (cr_sum B.hc) (sumD B.ct.k) hg (B.free _ hx) bo_sum ha (by decide) (by decide) he hpl
theorem wRepr (B : Bd X C W k fr) (ha : PA X (e :: es) (tA C W (eA fs))) (hx : ("repr" : Str) ∈ fr := by decide) (hg : Gl X "repr" := by rfl) (he : starEach (e :: es) X.env = (false, eval e X.env) :: starEach es X.env := by rfl) (hpl : (backTo pos (starEach es X.env)).any (·.1) = false := by rfl) :
    PE X (.Call (.Name "repr" p) (e :: es) [] pos) (tE C W (eB fs reprF)) := de_callB (call_repr B.ct B.rm) reprD hg (B.free _ hx) bo_repr ha (by decide) (by decide) he hpl
theorem wInt (B : Bd X C W k fr) (ha : PA X (e :: es) (tA C W (eA fs))) (hx : ("int" : Str) ∈ fr := by decide) (hg : Gl X "int" := by rfl) (he : starEach (e :: es) X.env = (false, eval e X.env) :: starEach es X.env := by rfl) (hpl : (backTo pos (starEach es X.env)).any (·.1) = false := by rfl) :
    PE X (.Call (.Name "int" p) (e :: es) [] pos) (tE C W (eB fs intF)) := de_callTy call_int1 intD hg (B.free _ hx) bo_int ha (by decide) (by decide) he hpl
theorem wStr (B : Bd X C W k fr) (ha : PA X (e :: es) (tA C W (eA fs))) (hx : ("str" : Str) ∈ fr := by decide) (hg : Gl X "str" := by rfl) (he : starEach (e :: es) X.env = (false, eval e X.env) :: starEach es X.env := by rfl) (hpl : (backTo pos (starEach es X.env)).any (·.1) = false := by rfl) :
    PE X (.Call (.Name "str" p) (e :: es) [] pos) (tE C W (eB fs strF)) := de_callTy call_str_int strD hg (B.free _ hx) bo_str ha (by decide) (by decide) he hpl
theorem wList (B : Bd X C W k fr) (ha : PA X (e :: es) (tA C W (eA fs))) (hx : ("list" : Str) ∈ fr := by decide) (hg : Gl X "list" := by rfl) (he : starEach (e :: es) X.env = (false, eval e X.env) :: starEach es X.env := by rfl) (hpl : (backTo pos (starEach es X.env)).any (·.1) = false := by rfl) :
    PE X (.Call (.Name "list" p) (e :: es) [] pos) (tE C W (eB fs listF)) := de_callTy call_list_of (listD B.ct.k) hg (B.free _ hx) bo_list ha (by decide) (by decide) he hpl
theorem wTuple (B : Bd X C W k fr) (ha : PA X (e :: es) (tA C W (eA fs))) (hx : ("tuple" : Str) ∈ fr := by decide) (hg : Gl X "tuple" := by rfl) (he : starEach (e :: es) X.env = (false, eval e X.env) :: starEach es X.env := by rfl) (hpl : (backTo pos (starEach es X.env)).any (·.1) = false := by rfl) :
    PE X (.Call (.Name "tuple" p) (e :: es) [] pos) (tE C W (eB fs tupleF)) := de_callTy call_tuple_of (tupleD B.ct.k) hg (B.free _ hx) bo_tuple ha (by decide) (by decide) he hpl
theorem wLrg {pr pc : Pos} (B : Bd X C W k fr) (ha : PE X e (tE C W f)) (hx : ("list" : Str) ∈ fr := by decide) (hx2 : ("range" : Str) ∈ fr := by decide) (hg : Gl X "list" := by rfl) (hg2 : Gl X "range" := by rfl)
    (na : starEach [e] X.env = (false, eval e X.env) :: starEach [] X.env := by rfl) (na' : starEach [.Call (.Name "range" pr) [e] [] pc] X.env = (false, eval (.Call (.Name "range" pr) [e] [] pc) X.env) :: starEach [] X.env := by rfl) :
    PE X (.Call (.Name "list" p) [.Call (.Name "range" pr) [e] [] pc] [] pos) (tE C W (eLRg f)) := de_lrg B.hc hg (B.free _ hx) hg2 (B.free _ hx2) ha na na'
/-! classes -/
theorem wErr (B : Bd X C W k fr) {c : Str} (ha : PA X [e] (tA C W (eA [f]))) (hc : c ∈ C.b.errs := by decide) (hg : Gl X c := by rfl) (hd : (c == ("__debug__" : Str)) = false := by decide) (hs : starEach (e :: []) X.env = (false, eval e X.env) :: starEach [] X.env := by rfl) (hpl : (backTo pos (starEach [] X.env)).any (·.1) = false := by rfl) :
    PE X (.Call (.Name c p) [e] [] pos) (tE C W (eErr f c)) := de_err B.ct B.rm hc ha hg hd hs hpl
theorem wIsE (B : Bd X C W k fr) {c : Str} (he : PE X e (tE C W f)) (hc : c ∈ C.b.errs := by decide) (hx : ("isinstance" : Str) ∈ fr := by decide) (hg : Gl X "isinstance" := by rfl) (hg2 : Gl X c := by rfl) (hd : (c == ("__debug__" : Str)) = false := by decide)
    (hs : starEach (e :: [.Name c p2]) X.env = (false, eval e X.env) :: starEach [.Name c p2] X.env := by rfl) (hs2 : starEach ((.Name c p2) :: []) X.env = (false, eval (.Name c p2) X.env) :: starEach [] X.env := by rfl) (hpl : (backTo pos (starEach [.Name c p2] X.env)).any (·.1) = false := by rfl) :
    PE X (.Call (.Name "isinstance" p) [e, .Name c p2] [] pos) (tE C W (e1 f (isiF (.err c)))) := by
  obtain ⟨B', fI, cc, cda, _, _, TE⟩ := B.ct.err.ex
  obtain ⟨T, hT, _⟩ := TE c hc
  refine de_isi B.ct (.err c) (v := .ref T) (cv := .ref T) (fun B2 f2 TE2 => ?_) (fun u r => r) he (pe_glob hg2 (by rw [← B.ct.mg]; exact hT) rfl hd) hg (B.free _ hx) hs hs2 hpl
  obtain ⟨T2, hT2, q2⟩ := TE2 c hc
  rw [hT] at hT2; cases hT2
  exact ⟨T, rfl, hT, q2⟩
theorem wIsT (B : Bd X C W k fr) {n : String} {c : Str} (he : PE X e (tE C W f)) (hb : bootBuiltins c = some (.type n)) (hy : c ∈ fr := by decide) (hx : ("isinstance" : Str) ∈ fr := by decide) (hg : Gl X "isinstance" := by rfl) (hg2 : Gl X c := by rfl) (hn : c ≠ "__name__" := by decide) (hd : (c == ("__debug__" : Str)) = false := by decide)
    (hs : starEach (e :: [.Name c p2]) X.env = (false, eval e X.env) :: starEach [.Name c p2] X.env := by rfl) (hs2 : starEach ((.Name c p2) :: []) X.env = (false, eval (.Name c p2) X.env) :: starEach [] X.env := by rfl) (hpl : (backTo pos (starEach [.Name c p2] X.env)).any (·.1) = false := by rfl) :
    PE X (.Call (.Name "isinstance" p) [e, .Name c p2] [] pos) (tE C W (e1 f (isiF (.ty n)))) :=
  de_isi B.ct (.ty n) (v := .ty n) (cv := .type n) (fun B2 f2 TE2 => rfl) (fun u r => r) he (pe_bltn hg2 (B.free _ hy) hb rfl hn hd) hg (B.free _ hx) hs hs2 hpl
theorem wVal (B : Bd X C W k fr) (he : PE X e (tE C W f)) (hb : attributeBase e "value" X.env (eval e X.env) = eval e X.env := by rfl) : PE X (.Attribute e "value" pos) (tE C W (e1 f valF)) := de_value B.ct he hb
/-! calls -/
theorem wCall (B : Bd X C W k fr) {x : Str} {np nN : Nat} {m : M Fl} (c : Cal X.prog X.w X.K X.mg X.base k C.b x np nN m) (ha : PA X (e :: es) (tA C W (eA fs))) (hg : Gl X x := by rfl) (hdb : (x == ("__debug__" : Str)) = false := by decide) (he : starEach (e :: es) X.env = (false, eval e X.env) :: starEach es X.env := by rfl) (hpl : (backTo pos (starEach es X.env)).any (·.1) = false := by rfl) :
    PE X (.Call (.Name x p) (e :: es) [] pos) (tE C W (eCall np nN m fs)) := by
  obtain ⟨f', fd, ps, F, hm, hk, hb⟩ := c.ex
  exact de_call B.rm B.ct.gd F hg hm hk hb B.tk ha hdb he hpl
theorem wCall0 (B : Bd X C W k fr) {x : Str} {np nN : Nat} {m : M Fl} (c : Cal X.prog X.w X.K X.mg X.base k C.b x np nN m) (hg : Gl X x := by rfl) (hdb : (x == ("__debug__" : Str)) = false := by decide) : PE X (.Call (.Name x p) [] [] pos) (tE C W (eCall np nN m [])) := by
  obtain ⟨f', fd, ps, F, hm, hk, hb⟩ := c.ex
  exact de_call0 B.rm B.ct.gd F hg hm hk hb B.tk hdb
/-! methods of owned lists -/
variable {o : Expr} {i : Nat} {apos cpos : Pos}
theorem wApp (B : Bd X C W k fr) (ho : PE X o (tE C W (eV i))) (ha : PA X (e :: es) (tA C W (eA fs)))
    (hbase : attributeBase o "append" X.env (eval o X.env) = eval o X.env := by rfl)
    (hfew : ((backTo cpos (starEach (e :: es) X.env)).all (fun x => !x.1) && (backToKw cpos (keywordEach [] X.env)).all (fun x => x.1.isSome)
      && decide ((e :: es).length + ([] : List Keyword).length + (if ([] : List Keyword).isEmpty then 0 else 1) < 30)) = true := by rfl)
    (hline : (apos.endLine == cpos.line) = true := by rfl) (hs : starEach (e :: es) X.env = (false, eval e X.env) :: starEach es X.env := by rfl) (hplain : (backTo cpos (starEach es X.env)).any (·.1) = false := by rfl) :
    PE X (.Call (.Attribute o "append" apos) (e :: es) [] cpos) (tE C W (eMut "list" i fs appF)) := de_mut PySem.F.plainAttrs_list PySem.F.slot_list_append PySem.F.type_list_append mt_append appD ho ha hbase hfew hline hs hplain
theorem wExt (B : Bd X C W k fr) (ho : PE X o (tE C W (eV i))) (ha : PA X (e :: es) (tA C W (eA fs)))
    (hbase : attributeBase o "extend" X.env (eval o X.env) = eval o X.env := by rfl)
    (hfew : ((backTo cpos (starEach (e :: es) X.env)).all (fun x => !x.1) && (backToKw cpos (keywordEach [] X.env)).all (fun x => x.1.isSome)
      && decide ((e :: es).length + ([] : List Keyword).length + (if ([] : List Keyword).isEmpty then 0 else 1) < 30)) = true := by rfl)
    (hline : (apos.endLine == cpos.line) = true := by rfl) (hs : starEach (e :: es) X.env = (false, eval e X.env) :: starEach es X.env := by rfl) (hplain : (backTo cpos (starEach es X.env)).any (·.1) = false := by rfl) :
    PE X (.Call (.Attribute o "extend" apos) (e :: es) [] cpos) (tE C W (eMut "list" i fs extF)) := de_mut PySem.F.plainAttrs_list PySem.F.slot_list_extend PySem.F.type_list_extend mt_extend extD ho ha hbase hfew hline hs hplain
end
end DL

set_option Elab.async false
set_option linter.all false
set_option maxRecDepth 100000
set_option maxHeartbeats 2000000
/-! What the top leaves, read by names: defs, classes of errors, the module's own dict of modules. -/
namespace DL
open PySem PySem.Spec L2 PySem.W PySem.Calls HandSPX
open PyProof.Rows hiding St

def clsOk (c : Str) (B T : Addr) : Option Obj → Bool
  | some ⟨.type t, _, .cls cd, sl⟩ => (match sl.toList with
    | [_, _, _, _, some (.builtin n), _] => decide (n = "ValueError.__new__")
    | _ => false) && (decide (t = "type") && (decide (cd.name = c) && (decide (cd.mro = .ref T :: (if c = "HomeError" then veTail else .ref B :: veTail)) && (cd.hasDict && !cd.hasDel))))
  | _ => false
theorem clsOk_ok {c : Str} {B T : Addr} {x : Option Obj} (h : clsOk c B T x = true) : ∃ q N bs sn sub ab col dd k0 k1 k2 k3 k5, x = some (excClassObj c q T N bs (if c = "HomeError" then veTail else .ref B :: veTail) true sn sub ab col dd k0 k1 k2 k3 k5 "ValueError.__new__") := by
  unfold clsOk at h
  split at h
  · rename_i t dd cd sl
    obtain ⟨h1, h⟩ := He.ba h
    obtain ⟨h2, h⟩ := He.ba h
    obtain ⟨h3, h⟩ := He.ba h
    obtain ⟨h4, h⟩ := He.ba h
    obtain ⟨h5, h6⟩ := He.ba h
    have h2 := of_decide_eq_true h2
    have h3 := of_decide_eq_true h3
    have h4 := of_decide_eq_true h4
    split at h1
    · rename_i k0 k1 k2 k3 n k5 hs
      have h1 := of_decide_eq_true h1
      obtain ⟨nm, bs, mro, ns, qn, hd, sn, sub, ab, col, del⟩ := cd
      dsimp only at h3 h4 h5 h6
      have h6 : del = false := by simpa using h6
      subst h2 h3 h4 h5 h6 h1
      have hsl : sl = #[k0, k1, k2, k3, some (.builtin "ValueError.__new__"), k5] := by
        rw [← hs, Array.toArray_toList]
      subst hsl
      exact ⟨qn, ns, bs, sn, sub, ab, col, dd, k0, k1, k2, k3, k5, rfl⟩
    · cases h1
  · cases h
def fiA (K : Frag) (B : Addr) : Addr := match findIn K (.ref B) "__init__" with
  | some (some (.ref a)) => a
  | _ => 0
def refOf : Value → Addr
  | .ref a => a
  | _ => 0
def errOk (K : Frag) (B : Addr) (c : Str) : Bool :=
  He.eqO (nsIn K mainGlobals c) (some (some (.ref (He.ga K c)))) && (clsOk c B (He.ga K c) (K.lookup (He.ga K c)) && (He.eqO (findIn K (.ref (He.ga K c)) "__setattr__") (some (some (.builtin "object.__setattr__"))) &&
    (He.eqO (findIn K (.ref (He.ga K c)) "__getattribute__") (some (some (.builtin "BaseException.__getattribute__"))) && (He.eqO (findIn K (.ref (He.ga K c)) "__getattr__") (some none) && (He.eqO (findIn K (.ref (He.ga K c)) "value") (some none) &&
    (He.eqO (findIn K (.ref (He.ga K c)) "__init__") (some (some (.ref (fiA K B)))) && (He.eqO (findIn K (.ref (He.ga K c)) "__class__") (some (some (.builtin "object.__class__"))) && keepIn K (.ref (He.ga K c)))))))))
/-- HomeError's __init__ -/
def iniOf (K : Frag) : Option (Str × Str × Arguments × FuncBody × Scope × Addr × List Str × Value × Addr) := match K.lookup (fiA K (He.ga K "HomeError")) with
  | some ⟨_, _, .func fd, _⟩ => some (fd.name, fd.qualname, fd.params, fd.body, fd.scope, fd.globals, fd.closure.map (·.1), fd.defaults, fd.builtins)
  | _ => none
def iniVal : Option (Str × Str × Arguments × FuncBody × Scope × Addr × List Str × Value × Addr) := some ("__init__", "HomeError.__init__", heA ⟨4, 17, 4, 21⟩ ⟨4, 23, 4, 28⟩, .stmts heB, heS, mainGlobals, ["__class__"], .none, builtinsNs)
def iniOk (p : Program) (K : Frag) : Bool := match K.lookup (fiA K (He.ga K "HomeError")) with
  | some ⟨_, _, .func fd, _⟩ => (match fd.closure, fd.code with
    | [(_, cc)], .ref cda => (match K.lookup cc with
      | some ⟨_, _, .cell (some (.ref b)), _⟩ => decide (b = He.ga K "HomeError")
      | _ => false) && ((match K.lookup cda with
      | some ⟨_, _, .fields vs, _⟩ => (match (vs[2]? : Option Value) with
        | some (Value.str file _) => ((p.main.file : Str) == file)
        | _ => false)
      | _ => false) && codeIn K fd.code "HomeError.__init__")
    | _, _ => false) && (decide (typeIn K (.ref (fiA K (He.ga K "HomeError"))) = some (.type "function")))
  | _ => false
def baseOk (p : Program) (K : Frag) : Bool := iniOk p K && (He.eqO (nsIn K cStatics "thirdparty.any") (some none) && (He.eqO (nsIn K mainGlobals "super") (some none) && ((clsIn K (He.ga K "HomeError")).isSome && (!(p.main.scope.names.lookup ("super" : Str)).isSome && (K.lookup sysModules).isSome))))
theorem errT_of {K : Frag} {c : Str} (h : errOk K (He.ga K "HomeError") c = true) : nsIn K mainGlobals c = some (some (.ref (He.ga K c))) ∧ ErrT K (He.ga K "HomeError") (fiA K (He.ga K "HomeError")) c (He.ga K c) := by
  unfold errOk at h
  obtain ⟨h0, h⟩ := He.ba h
  obtain ⟨h1, h⟩ := He.ba h
  obtain ⟨h2, h⟩ := He.ba h
  obtain ⟨h3, h⟩ := He.ba h
  obtain ⟨h4, h⟩ := He.ba h
  obtain ⟨h5, h⟩ := He.ba h
  obtain ⟨h6, h⟩ := He.ba h
  obtain ⟨h7, h8⟩ := He.ba h
  exact ⟨He.eqO_ok h0, clsOk_ok h1, fun e => by rw [e], He.eqO_ok h2, He.eqO_ok h3, He.eqO_ok h4, He.eqO_ok h5, He.eqO_ok h6, He.eqO_ok h7, h8⟩
theorem baseT_of {p : Program} {K : Frag} {h : Heap} {mg : Str → Option Value} (X : K.In h) (G : h.Ns mainGlobals mg) (hb : baseOk p K = true) (hi : iniOf K = iniVal) : (∃ o, K.lookup sysModules = some o) ∧ ∃ cc cda, BaseT p K mg (He.ga K "HomeError") (fiA K (He.ga K "HomeError")) cc cda := by
  unfold baseOk at hb
  obtain ⟨h0, hb⟩ := He.ba hb
  obtain ⟨h1, hb⟩ := He.ba hb
  obtain ⟨h2, hb⟩ := He.ba hb
  obtain ⟨h3, hb⟩ := He.ba hb
  obtain ⟨h4, h5⟩ := He.ba hb
  unfold iniOk at h0
  unfold iniOf iniVal at hi
  refine ⟨Option.isSome_iff_exists.mp h5, ?_⟩
  split at h0
  · rename_i oc od fd osl hlk
    rw [hlk] at hi
    dsimp only at hi
    obtain ⟨h0, h6⟩ := He.ba h0
    split at h0
    · rename_i cn cc cda hcl hcd
      obtain ⟨h7, h0⟩ := He.ba h0
      obtain ⟨h8, h9⟩ := He.ba h0
      split at h7
      · rename_i cl cld b csl hcell
        have h7 := of_decide_eq_true h7
        subst h7
        split at h8
        · rename_i kl kd vs ksl hcode
          split at h8
          · rename_i file tf hv
            obtain ⟨n1, n2, n3, n4, n5, n6, n7, n8, n9, n10, n11, n12, n13, n14, n15⟩ := fd
            dsimp only at hi hcl hcd h9
            simp only [Option.some.injEq, Prod.mk.injEq] at hi
            obtain ⟨rfl, rfl, rfl, rfl, rfl, rfl, hn, rfl, rfl⟩ := hi
            subst hcl
            subst hcd
            have hn : cn = ("__class__" : Str) := by simpa using hn
            subst hn
            exact ⟨cc, cda, Option.isSome_iff_exists.mp h3, of_decide_eq_true h6, He.eqO_ok h1, He.free_ok X G h2, by simpa using h4, ⟨_, _, _, _, _, _, _, _, _, _, hlk, h9⟩, ⟨_, _, _, _, _, _, hcode, hv, h8⟩, ⟨_, _, _, hcell⟩⟩
          · cases h8
        · cases h8
      · cases h7
    · cases h0
  · cases h0

/-! ### the hook -/
def asK (g : Addr → Option Obj) (n : Nat) : List Addr := sysModules :: cStatics :: He.asD g n
abbrev AlK : Type := (Bool × List He.FnW) × Option (Str × Str × Arguments × FuncBody × Scope × Addr × List Str × Value × Addr)
def obsK (p : Program) (errs : List Str) (fr : List Str) (fn : List He.DefD) (K : Frag) : AlK :=
  ((baseOk p K && ((errs.all fun c => errOk K (He.ga K "HomeError") c) && ((fr.all fun x => (He.Fa.free x).ok K) && fn.all fun d => d.ok K && (He.Fa.glo d.name).ok K)), fn.map fun d => He.fnW K d.at_), iniOf K)
def valK (fn : List He.DefD) : AlK := ((true, fn.map He.DefD.val), iniVal)
def SaysK (p : Program) (errs fr : List Str) (fn : List He.DefD) (K : Frag) : Prop := obsK p errs fr fn K = valK fn
def hookK (p : Program) (n : Nat) (errs fr : List Str) (fn : List He.DefD) : Hook where
  α := AlK
  obs := fun s => obsK p errs fr fn (He.frG s.heap.get? (asK s.heap.get? n))
  val := fun _ => valK fn
  says := fun _ h => ∃ K : Frag, K.In h ∧ SaysK p errs fr fn K
  of := fun _ _ e => ⟨_, He.frG_in, e⟩
  keeps := fun _ _ _ ⟨K, hK, c⟩ k => ⟨K, Frag.In.keeps hK k, c⟩
def obK (p : Program) (n : Nat) (errs fr : List Str) (fn : List He.DefD) (s : SharedT) : AlK := obsK p errs fr fn (He.frG (HandSHeadRun.getT s) (asK (HandSHeadRun.getT s) n))
theorem obK_eq {p : Program} {n : Nat} {errs fr : List Str} {fn : List He.DefD} (s : SharedT) : obK p n errs fr fn s = (hookK p n errs fr fn).obs s.abs := by
  have e : HandSHeadRun.getT s = s.abs.heap.get? := funext fun a => HandSHeadRun.getT_eq s a
  unfold obK
  rw [e]
  rfl
section
variable {p : Program} {errs fr : List Str} {fn : List He.DefD} {K : Frag} {h : Heap} {mg : Str → Option Value}
theorem SaysK.def_ (c : SaysK p errs fr fn K) (X : K.In h) (G : h.Ns mainGlobals mg) (i : Nat) {d : He.DefD} (hi : fn[i]? = some d := by rfl) : mg d.name = some (.ref (He.ga K d.name)) ∧ ∃ fd, FunD K d.name d.qual d.params d.body d.scope (d.dvs K) (d.kws K) (He.fAd K d.at_) fd := by
  have e1 := congrArg (fun z : AlK => z.1.1) c
  have e2 := congrArg (fun z : AlK => z.1.2) c
  dsimp only [obsK, valK] at e1 e2
  obtain ⟨_, e1⟩ := He.ba e1
  obtain ⟨_, e1⟩ := He.ba e1
  obtain ⟨_, e1⟩ := He.ba e1
  have m := List.mem_of_getElem? hi
  obtain ⟨k1, k2⟩ := He.ba (List.all_eq_true.mp e1 d m)
  have e3 := congrArg (fun l : List He.FnW => l[i]?) e2
  rw [List.getElem?_map, List.getElem?_map, hi] at e3
  exact ⟨He.glo_ok X G k2, He.DefD.funD (by simpa using e3) k1⟩
theorem SaysK.free (c : SaysK p errs fr fn K) (X : K.In h) (G : h.Ns mainGlobals mg) {x : Str} (hx : x ∈ fr) : mg x = none := by
  have e1 := congrArg (fun z : AlK => z.1.1) c
  dsimp only [obsK, valK] at e1
  obtain ⟨_, e1⟩ := He.ba e1
  obtain ⟨_, e1⟩ := He.ba e1
  obtain ⟨e1, _⟩ := He.ba e1
  exact He.free_ok X G (List.all_eq_true.mp e1 x hx)
theorem SaysK.err (c : SaysK p errs fr fn K) (X : K.In h) (G : h.Ns mainGlobals mg) (hb : ("HomeError" : Str) ∈ errs) : (∃ o, K.lookup sysModules = some o) ∧ ∃ B fI cc cda, BaseT p K mg B fI cc cda ∧ IsBase K B ∧ ∀ c ∈ errs, ∃ T, mg c = some (.ref T) ∧ ErrT K B fI c T := by
  have e1 := congrArg (fun z : AlK => z.1.1) c
  have e2 := congrArg (fun z : AlK => z.2) c
  dsimp only [obsK, valK] at e1 e2
  obtain ⟨e0, e1⟩ := He.ba e1
  obtain ⟨e1, _⟩ := He.ba e1
  obtain ⟨sm, cc, cda, b⟩ := baseT_of X G e0 e2
  have te : ∀ c ∈ errs, ∃ T, mg c = some (.ref T) ∧ ErrT K (He.ga K "HomeError") (fiA K (He.ga K "HomeError")) c T := fun c hc => by
    obtain ⟨h1, h2⟩ := errT_of (List.all_eq_true.mp e1 c hc)
    exact ⟨_, mg_of X G h1, h2⟩
  refine ⟨sm, _, _, cc, cda, b, ?_, te⟩
  obtain ⟨h1, h2⟩ := errT_of (List.all_eq_true.mp e1 _ hb)
  obtain ⟨q, N, bs, sn, sub, ab, col, dd, k0, k1, k2, k3, k5, e⟩ := h2.cls
  exact ⟨q, N, bs, _, sn, sub, ab, col, dd, k0, k1, k2, k3, k5, e⟩
end
end DL

set_option Elab.async false
set_option linter.all false
set_option maxRecDepth 100000
set_option maxHeartbeats 0
/-! How a mirror is run. -/
namespace DL
open PySem PySem.Spec L2
open PyProof.Rows hiding St

@[simp] theorem nrm_eC (d : D) (ρ : DEnv) : nrm (eC d) ρ = .ok (.val d) ρ := rfl
theorem nrm_eV {i : Nat} {ρ : DEnv} {x : Bool × D} (h : ρ[i]? = some (some x)) : nrm (eV i) ρ = .ok (.slot i) ρ := by
  unfold nrm eV; rw [h]; rfl
theorem nrm_ok {f : M Opd} {ρ ρ' : DEnv} {o : Opd} (h : f ρ = .ok o ρ') : nrm f ρ = .ok (nrmO o) ρ' := by unfold nrm; rw [h]; rfl
@[simp] theorem look_val (d : D) (ρ : DEnv) : look (.val d) ρ = some d := rfl
@[simp] theorem look_own (d : D) (ρ : DEnv) : look (.own d) ρ = some d := rfl
theorem log2_lt {i : Int} {n : Nat} (h : i.natAbs < 2 ^ n) (h0 : 0 < n) : i.natAbs.log2 < n := PySem.Flt.log2_lt_of h0 h
theorem mulF_ok {i j : Int} (a b : Nat) (hi : i.natAbs < 2 ^ a) (hj : j.natAbs < 2 ^ b) (ha : 0 < a := by decide) (hb : 0 < b := by decide) (hab : a + b ≤ 1000000 := by decide) : mulF (.int i) (.int j) = some (.val (.int (i * j))) := by
  show (if _ then _ else _) = _
  rw [if_pos]
  have := log2_lt hi ha
  have := log2_lt hj hb
  omega
theorem modF_ok {i j : Int} (h : 0 < j) : modF (.int i) (.int j) = some (.val (.int (i % j))) := if_pos h
section
variable {f g : M Opd} {fs : List (M Opd)} {F : D → Option Opd} {F2 : D → D → Option Opd} {FB : List D → Option Opd} {ρ ρ1 ρ2 ρ3 : DEnv} {a b o o' : Opd} {os : List Opd} {x y : D} {ds : List D} {c : Bool} {t u : M Bool} {s1 s2 : M Fl} {np nN i : Nat} {m : M Fl}
theorem eV_ok {z : Bool × D} (h : ρ[i]? = some (some z)) : eV i ρ = .ok (.slot i) ρ := by unfold eV; rw [h]
theorem eA_nil : eA [] ρ = .ok [] ρ := rfl
theorem eA_cons (h : f ρ = .ok o ρ1) (h' : eA fs ρ1 = .ok os ρ2) : eA (f :: fs) ρ = .ok (nrmO o :: os) ρ2 := by
  show (nrm f ρ).bind _ = _
  rw [nrm_ok h, R.bind_ok, h']; rfl
theorem e1_ok (h : f ρ = .ok a ρ1) (l : look (nrmO a) ρ1 = some x) (hf : F x = some o) : e1 f F ρ = .ok o ρ1 := by
  show (nrm f ρ).bind _ = _
  rw [nrm_ok h, R.bind_ok]; unfold fin1; rw [l]; dsimp only; rw [hf]
theorem e2_ok (h1 : f ρ = .ok a ρ1) (h2 : g ρ1 = .ok b ρ2) (l1 : look (nrmO a) ρ2 = some x) (l2 : look (nrmO b) ρ2 = some y) (h : F2 x y = some o) : e2 f g F2 ρ = .ok o ρ2 := by
  show (nrm f ρ).bind _ = _
  rw [nrm_ok h1, R.bind_ok, nrm_ok h2, R.bind_ok]; unfold fin2; rw [l1, l2]; dsimp only; rw [h]
theorem eB_ok (h : eA fs ρ = .ok os ρ1) (l : looks os ρ1 = some ds) (hf : FB ds = some o) : eB fs FB ρ = .ok o ρ1 := by
  show (eA fs ρ).bind _ = _
  rw [h, R.bind_ok]; unfold finB; rw [l]; dsimp only; rw [hf]
theorem eTup_ok (h : eA fs ρ = .ok os ρ1) (l : takeAll os ρ1 = some (ds, ρ2)) (hz : ds.length ≤ 16777216) : eTup fs ρ = .ok (.val (.tup ds)) ρ2 := by
  show (eA fs ρ).bind _ = _
  rw [h, R.bind_ok, l]; dsimp only; rw [if_pos hz]
theorem eLst_ok (h : eA fs ρ = .ok os ρ1) (l : takeAll os ρ1 = some (ds, ρ2)) (hz : ds.length ≤ 16777216) : eLst fs ρ = .ok (.own (.lst ds)) ρ2 := by
  show (eA fs ρ).bind _ = _
  rw [h, R.bind_ok, l]; dsimp only; rw [if_pos hz]
theorem eCall_ok {r : R Opd} (h : eA fs ρ = .ok os ρ1) (c : callM np nN m os ρ1 = r) : eCall np nN m fs ρ = r := by
  show (eA fs ρ).bind _ = _
  rw [h, R.bind_ok, c]
theorem tV_ok (h : f ρ = .ok a ρ1) (l : look (nrmO a) ρ1 = some (.bl c)) : tV f ρ = .ok c ρ1 := by
  show (nrm f ρ).bind _ = _
  rw [nrm_ok h, R.bind_ok]; unfold finT; rw [l]
theorem tNot_ok (h : t ρ = .ok c ρ1) : tNot' t ρ = .ok (!c) ρ1 := by
  show (t ρ).bind _ = _
  rw [h]; rfl
theorem tOr_f (h : t ρ = .ok false ρ1) : tOr' t u ρ = u ρ1 := by
  show (t ρ).bind _ = _
  rw [h]; rfl
theorem tOr_t (h : t ρ = .ok true ρ1) : tOr' t u ρ = .ok true ρ1 := by
  show (t ρ).bind _ = _
  rw [h]; rfl
theorem tAnd_t (h : t ρ = .ok true ρ1) : tAnd' t u ρ = u ρ1 := by
  show (t ρ).bind _ = _
  rw [h]; rfl
theorem tAnd_f (h : t ρ = .ok false ρ1) : tAnd' t u ρ = .ok false ρ1 := by
  show (t ρ).bind _ = _
  rw [h]; rfl
theorem eAnd_t (h : f ρ = .ok a ρ1) (l : look (nrmO a) ρ1 = some (.bl true)) : eAnd f g ρ = g ρ1 := by
  show (nrm f ρ).bind _ = _
  rw [nrm_ok h, R.bind_ok, l]
theorem eAnd_f (h : f ρ = .ok a ρ1) (l : look (nrmO a) ρ1 = some (.bl false)) : eAnd f g ρ = .ok (.val (.bl false)) ρ1 := by
  show (nrm f ρ).bind _ = _
  rw [nrm_ok h, R.bind_ok, l]
theorem eOr_f (h : f ρ = .ok a ρ1) (l : look (nrmO a) ρ1 = some (.bl false)) : eOr f g ρ = g ρ1 := by
  show (nrm f ρ).bind _ = _
  rw [nrm_ok h, R.bind_ok, l]
theorem eOr_t (h : f ρ = .ok a ρ1) (l : look (nrmO a) ρ1 = some (.bl true)) : eOr f g ρ = .ok (.val (.bl true)) ρ1 := by
  show (nrm f ρ).bind _ = _
  rw [nrm_ok h, R.bind_ok, l]
theorem eIf_ok (h : t ρ = .ok c ρ1) : eIf t f g ρ = if c then f ρ1 else g ρ1 := by
  show (t ρ).bind _ = _
  rw [h]; rfl
theorem sSeq_nx (h : s1 ρ = .ok .nx ρ1) : sSeq s1 s2 ρ = s2 ρ1 := by
  show (s1 ρ).bind _ = _
  rw [h]; rfl
theorem sSeq_rt (h : s1 ρ = .ok (.rt o) ρ1) : sSeq s1 s2 ρ = .ok (.rt o) ρ1 := by
  show (s1 ρ).bind _ = _
  rw [h]; rfl
theorem sAsg_ok (h : f ρ = .ok o ρ1) (r : rsv o ρ1 = some (o', ρ2)) (a : asg np i o' ρ2 = some ρ3) : sAsg np i f ρ = .ok .nx ρ3 := by
  show (f ρ).bind _ = _
  rw [h, R.bind_ok, r]; dsimp only; rw [a]
theorem sExpr_ok (h : f ρ = .ok o ρ1) : sExpr f ρ = .ok .nx ρ1 := by
  show (f ρ).bind _ = _
  rw [h]; rfl
theorem sIf_ok (h : t ρ = .ok c ρ1) : sIf t s1 s2 ρ = if c then s1 ρ1 else s2 ρ1 := by
  show (t ρ).bind _ = _
  rw [h]; rfl
theorem sRet_ok (h : f ρ = .ok o ρ1) (r : retO np o ρ1 = some (o', ρ2)) : sRet np f ρ = .ok (.rt o') ρ2 := by
  show (f ρ).bind _ = _
  rw [h, R.bind_ok, r]
theorem sFor_ok {it : M (List D)} {tg : Tg} {r : R Fl} (h : it ρ = .ok ds ρ1) (l : loopF tg s1 ds ρ1 = r) : sFor it tg s1 ρ = r := by
  show (it ρ).bind _ = _
  rw [h, R.bind_ok, l]
theorem loop_cons {tg : Tg} {d : D} {r : R Fl} (ht : tg d ρ = some ρ1) (hb : s1 ρ1 = .ok .nx ρ2) (h : loopF tg s1 ds ρ2 = r) : loopF tg s1 (d :: ds) ρ = r := by
  unfold loopF
  rw [ht]; dsimp only; rw [hb]; exact h
theorem eLc_ok {it : M (List D)} {vs : List Nat} {tg : Tg} {cd : M Bool} {out : List D} (h : it ρ = .ok ds ρ1) (l : lcGo vs tg cd f ds [] (wipeD ρ1 vs) = .ok out ρ2) : eLc it vs tg cd f ρ = .ok (.own (.lst out)) ρ2 := by
  show (it ρ).bind _ = _
  rw [h, R.bind_ok, l]; rfl
end
theorem iRng_ok {fs : List (M Opd)} {ρ ρ1 : DEnv} {os : List Opd} {j : Int} (e : eA fs ρ = .ok os ρ1) (l : looks os ρ1 = some [.int j]) (h1 : -(2 ^ 62) ≤ j) (h2 : j < 2 ^ 62) : iRng fs ρ = .ok (rngL 0 j.toNat) ρ1 := by
  unfold iRng
  rw [e, R.bind_ok, l]
  show (if -(2 ^ 62) ≤ j ∧ j < 2 ^ 62 then R.ok (rngL 0 j.toNat) ρ1 else R.bad) = _
  rw [if_pos ⟨h1, h2⟩]
theorem small62 {n : Nat} (h : n < 2 ^ 30) : (-(2 ^ 62) : Int) ≤ ((n : Nat) : Int) ∧ ((n : Nat) : Int) < 2 ^ 62 := by
  have h62 : (2 : Int) ^ 62 = 4611686018427387904 := by rfl
  rw [h62]; omega
end DL

set_option maxHeartbeats 0
namespace K00
open PySem PySem.Spec L2 DL
open PyProof.Rows hiding St

abbrev prog : Program := PySem.Challenge.pw_untoldhomes_k00_errors_and_what_they_kee
def top (i : Nat) : Stmt := prog.main.body.getD i (.Pass ⟨0, 0, 0, 0⟩)
def errs : List Str := ["HomeError", "BadTown", "NoPlace", "BadPlace", "Full", "Few", "BadSpot", "BadMark", "Same", "BadClaim", "BadSaying", "BadSayings", "NoSaying", "OtherTown", "NoSpot", "BadNumber", "BadRanking", "NoRanking", "OtherNames", "BadVillage", "BadCounts", "TooMany", "NoCrowd", "NoRankings", "BadOffers", "BadWishes", "Contrary", "NothingToUndo", "NothingToRedo", "NoTrial", "BadJournal", "BadLine"]
def fr : List Str := ["ValueError", "abs", "all", "any", "enumerate", "int", "isinstance", "len", "list", "max", "min", "range", "repr"]
def n_law_pot : List Str := ["_law_script", "_law_place", "_law_cell", "_law_own", "_law_small"]
def m_law_pot : M Fl := (sSeq (sAsg 2 2 (eIf (tV (e2 (eV 1) (eB [(eV 0)] lenF) ltF)) (e2 (eV 0) (eV 1) ixF) (e2 (e2 (eC (.int 331)) (eV 1) mulF) (eC (.int 151)) addF)))
  (sSeq (sAsg 2 3 (e2 (e2 (eB [(eB [(eV 2)] absF)] intF) (e2 (e2 (eC (.int 10)) (eC (.int 60)) powF) (eC (.int 5)) powF) modF) (eB [(e2 (eB [(eV 2)] absF) (e2 (eC (.int 10)) (eC (.int 18)) powF) geF)] intF) mulF))
  (sSeq (sAsg 2 4 (e2 (eB [(eV 2)] intF) (eC (.int 2305843009213693951)) modF))
  (sRet 2 (eLst [(eV 3), (e2 (eB [(e2 (e2 (e2 (eV 4) (eC (.int 72001)) mulF) (e2 (e2 (eC (.int 7331)) (eV 1) mulF) (eV 1) mulF) addF) (eC (.int 167)) addF)] intF) (eC (.int 2305843009213693921)) modF), (eC (.int 0))])))))
def n_law_take : List Str := ["_law_pot_here", "_law_upto", "_law_digit", "_law_prime", "_law_blend"]
def m_law_take : M Fl := (sSeq (sIf (tV (e2 (e2 (eV 0) (eC (.int 0)) ixF) (eC (.int 0)) gtF)) (sSeq (sAsg 2 2 (e2 (eB [(e2 (eV 0) (eC (.int 0)) ixF)] intF) (eV 1) modF))
  (sSeq (sSetI 0 (eC (.int 0)) (e2 (e2 (eV 0) (eC (.int 0)) ixF) (eV 1) divF) setF)
  (sRet 2 (eV 2)))) sNil)
  (sSeq (sSetI 0 (eC (.int 2)) (e2 (e2 (eV 0) (eC (.int 2)) ixF) (eC (.int 1)) addF) setF)
  (sSeq (sAsg 2 3 (e2 (eLst [(eC (.int 2147483647)), (eC (.int 2147483629)), (eC (.int 2147483587)), (eC (.int 2147483579)), (eC (.int 2147483563))]) (e2 (eB [(e2 (eV 0) (eC (.int 2)) ixF)] intF) (eC (.int 5)) modF) ixF))
  (sSeq (sAsg 2 4 (e2 (eB [(e2 (eB [(e2 (e2 (e2 (eV 0) (eC (.int 1)) ixF) (e2 (e2 (eC (.int 100801)) (e2 (eV 0) (eC (.int 2)) ixF) mulF) (e2 (eV 0) (eC (.int 2)) ixF) mulF) addF) (eC (.int 71)) addF)] intF) (eC (.int 3)) powF)] intF) (eV 3) modF))
  (sSeq (sAsg 2 4 (e2 (eB [(e2 (eV 4) (e2 (e2 (eB [(eV 4)] intF) (eC (.int 10433)) modF) (e2 (eC (.int 197)) (e2 (eV 0) (eC (.int 2)) ixF) mulF) addF) mulF)] intF) (eC (.int 2305843009213693907)) modF))
  (sRet 2 (e2 (eB [(e2 (eV 4) (eC (.int 139)) divF)] intF) (eV 1) modF)))))))
def n_law_of : List Str := ["_law_pot_here", "_law_some"]
def m_law_of : M Fl := (sRet 2 (e2 (eV 1) (eCall 2 5 m_law_take [(eV 0), (eB [(eV 1)] lenF)]) ixF))
def n_law_cells : List Str := ["_law_script", "_law_limit"]
def m_law_cells : M Fl := (sRet 2 (eLRg (eB [(eC (.int 1)), (eB [(eV 1), (eB [(eV 0)] lenF)] minF)] maxF)))
def n_law_odd : List Str := ["_law_pot_here", "_law_some"]
def m_law_odd : M Fl := (sSeq (sAsg 1 1 (eLst [(eC .non), (eC (.bl true)), (eC (.bl false)), (eC (.int 0)), (eC (.int 1)), (e1 (eC (.int 1)) negF), (eC (.int 2)), (e2 (eC (.int 10)) (eC (.int 8)) powF), (eC (.str "")), (eC (.str "a")), (eC (.str "near")), (eTup []), (eLst []), (eDisp []), (eTup [(eC (.int 0))]), (eTup [(eTup [])]), (eLst [(eC (.int 0))]), (eTup [(eC (.str "a")), (eC (.str "b"))]), (eC (.str "zz"))]))
  (sRet 1 (eCall 2 2 m_law_of [(eV 0), (e2 (eV 1) (eLst [(eTup [(eC (.str "near")), (eC (.str "a"))]), (eTup [(eC (.int 0)), (eC (.int 0)), (eC (.int 0))]), (eTup [(eC (.int 1)), (eC (.int 1)), (eC (.int 1))]), (eTup [(eC (.str "a"))]), (eDisp [((eC (.str "a")), (eC (.int 1)))]), (eC (.str "A")), (eTup [(eC (.bl true)), (eC (.int 0)), (eC (.int 1))]), (eLst [(eC (.str "a")), (eC (.str "b"))])]) addF)])))
def n_law_made : List Str := ["_law_value", "_law_found"]
def m_law_made : M Fl := (sSeq (sAsg 1 1 (eLst [(eErr (eV 0) "BadClaim"), (eErr (eV 0) "BadCounts"), (eErr (eV 0) "BadJournal"), (eErr (eV 0) "BadLine"), (eErr (eV 0) "BadMark"), (eErr (eV 0) "BadNumber")]))
  (sSeq (sExpr (eMut "list" 1 [(eLst [(eErr (eV 0) "BadOffers"), (eErr (eV 0) "BadPlace"), (eErr (eV 0) "BadRanking"), (eErr (eV 0) "BadSaying"), (eErr (eV 0) "BadSayings")])] extF))
  (sSeq (sExpr (eMut "list" 1 [(eLst [(eErr (eV 0) "BadSpot"), (eErr (eV 0) "BadTown"), (eErr (eV 0) "BadVillage"), (eErr (eV 0) "BadWishes"), (eErr (eV 0) "Contrary"), (eErr (eV 0) "Few")])] extF))
  (sSeq (sExpr (eMut "list" 1 [(eLst [(eErr (eV 0) "Full"), (eErr (eV 0) "NoCrowd"), (eErr (eV 0) "NoPlace"), (eErr (eV 0) "NoRanking"), (eErr (eV 0) "NoRankings"), (eErr (eV 0) "NoSaying")])] extF))
  (sSeq (sExpr (eMut "list" 1 [(eLst [(eErr (eV 0) "NoSpot"), (eErr (eV 0) "NothingToRedo"), (eErr (eV 0) "NothingToUndo"), (eErr (eV 0) "NoTrial"), (eErr (eV 0) "OtherNames")])] extF))
  (sRet 1 (e2 (eV 1) (eLst [(eErr (eV 0) "OtherTown"), (eErr (eV 0) "Same"), (eErr (eV 0) "TooMany")]) addF)))))))
def n_law_marks : List Str := ["_law_error", "_law_found"]
def m_law_marks : M Fl := (sSeq (sAsg 1 1 (eLst [(e1 (eV 0) (isiF (.err "BadClaim"))), (e1 (eV 0) (isiF (.err "BadCounts"))), (e1 (eV 0) (isiF (.err "BadJournal")))]))
  (sSeq (sExpr (eMut "list" 1 [(eLst [(e1 (eV 0) (isiF (.err "BadLine"))), (e1 (eV 0) (isiF (.err "BadMark"))), (e1 (eV 0) (isiF (.err "BadNumber")))])] extF))
  (sSeq (sExpr (eMut "list" 1 [(eLst [(e1 (eV 0) (isiF (.err "BadOffers"))), (e1 (eV 0) (isiF (.err "BadPlace"))), (e1 (eV 0) (isiF (.err "BadRanking")))])] extF))
  (sSeq (sExpr (eMut "list" 1 [(eLst [(e1 (eV 0) (isiF (.err "BadSaying"))), (e1 (eV 0) (isiF (.err "BadSayings"))), (e1 (eV 0) (isiF (.err "BadSpot")))])] extF))
  (sSeq (sExpr (eMut "list" 1 [(eLst [(e1 (eV 0) (isiF (.err "BadTown"))), (e1 (eV 0) (isiF (.err "BadVillage"))), (e1 (eV 0) (isiF (.err "BadWishes")))])] extF))
  (sSeq (sExpr (eMut "list" 1 [(eLst [(e1 (eV 0) (isiF (.err "Contrary"))), (e1 (eV 0) (isiF (.err "Few"))), (e1 (eV 0) (isiF (.err "Full")))])] extF))
  (sSeq (sExpr (eMut "list" 1 [(eLst [(e1 (eV 0) (isiF (.err "NoCrowd"))), (e1 (eV 0) (isiF (.err "NoPlace"))), (e1 (eV 0) (isiF (.err "NoRanking")))])] extF))
  (sSeq (sExpr (eMut "list" 1 [(eLst [(e1 (eV 0) (isiF (.err "NoRankings"))), (e1 (eV 0) (isiF (.err "NoSaying"))), (e1 (eV 0) (isiF (.err "NoSpot")))])] extF))
  (sSeq (sExpr (eMut "list" 1 [(eLst [(e1 (eV 0) (isiF (.err "NothingToRedo"))), (e1 (eV 0) (isiF (.err "NothingToUndo"))), (e1 (eV 0) (isiF (.err "NoTrial")))])] extF))
  (sSeq (sExpr (eMut "list" 1 [(eLst [(e1 (eV 0) (isiF (.err "OtherNames"))), (e1 (eV 0) (isiF (.err "OtherTown"))), (e1 (eV 0) (isiF (.err "Same")))])] extF))
  (sRet 1 (e2 (eV 1) (eLst [(e1 (eV 0) (isiF (.err "TooMany")))]) addF))))))))))))
def n_law_right : List Str := ["_law_pot_here", "_law_value", "_law_made_here", "_law_spot", "_law_error", "_law_base", "_law_place"]
def m_law_right : M Fl := (sSeq (sAsg 1 1 (eCall 2 2 m_law_of [(eV 0), (eLst [(eCall 1 2 m_law_odd [(eV 0)]), (eTup [(eCall 1 2 m_law_odd [(eV 0)]), (eC (.int 3))]), (eLst [(eCall 1 2 m_law_odd [(eV 0)])]), (eDisp [((eC (.str "a")), (eCall 1 2 m_law_odd [(eV 0)]))])])]))
  (sSeq (sAsg 1 2 (eCall 1 2 m_law_made [(eV 1)]))
  (sSeq (sFor (iEn (eV 2)) (tgT 2 [(tgN 1 3), (tgN 1 4)]) (sSeq (sIf (tOr' (tNot' (tV (e1 (eV 4) (isiF (.err "HomeError"))))) (tNot' (tV (e1 (eV 4) (isiF (.ty "ValueError")))))) (sRet 1 (eC (.bl false))) sNil)
  (sIf (tOr' (tV (e2 (eB [(e1 (eV 4) valF)] reprF) (eB [(eV 1)] reprF) neF)) (tV (e2 (eCall 1 2 m_law_marks [(eV 4)]) (eLc (iRng [(eB [(eV 2)] lenF)]) [6] (tgN 1 6) tYes' (e2 (eV 3) (eV 6) eqF)) neF))) (sRet 1 (eC (.bl false))) sNil)))
  (sSeq (sAsg 1 5 (eErr (eV 1) "HomeError"))
  (sRet 1 (eAnd (e2 (eB [(e1 (eV 5) valF)] reprF) (eB [(eV 1)] reprF) eqF) (eAnd (e1 (eV 5) (isiF (.ty "ValueError"))) (e1 (eB [(eCall 1 2 m_law_marks [(eV 5)])] anyF) notF))))))))
def n_law : List Str := ["_law_script", "_law_place", "_law_pot_here", "_law_lap"]
def m_law : M Fl := (sSeq (sFor (iOf lstK (eCall 2 2 m_law_cells [(eV 0), (eC (.int 4))])) (tgN 1 1) (sSeq (sAsg 1 2 (eCall 2 5 m_law_pot [(eV 0), (eV 1)]))
  (sIf (tNot' (tV (eB [(eLc (iRng [(eC (.int 1))]) [3] (tgN 1 3) tYes' (eCall 1 7 m_law_right [(eV 2)]))] allF))) (sRet 1 (eC (.bl false))) sNil)))
  (sRet 1 (eC (.bl true))))
section
variable {w : World} {K : PySem.W.Frag} {mg : Str → Option Value} {base : Heap}
theorem sc_law_pot : FnScope n_law_pot ["_law_script", "_law_place"] (defScope (top 34)) := ⟨rfl, rfl, rfl, by decide +kernel, rfl, by decide +kernel, by decide +kernel⟩
theorem ok_law_pot (T : Tp prog K mg base errs fr) {f : Addr} {fd : FuncData} (F : FunD K "_law_pot" "_law_pot" (defArgs (top 34)) (defBody (top 34)) (defScope (top 34)) [] [] f fd) (hm : mg "_law_pot" = some (.ref f))  :
    FnD prog w K mg base 2 f fd ["_law_script", "_law_place"] (spM ⟨K, mg, errs⟩ 2 5 m_law_pot) ∧ Cal prog w K mg base 2 ⟨K, mg, errs⟩ "_law_pot" 2 5 m_law_pot :=
  Cal.of T F hm sc_law_pot (F.bindsN fun _ _ _ _ _ _ us hl => match us, hl with | [_, _], _ => rfl) fun X W cdv A outer s H E hX B hp => by
    subst hX
    exact (dss_cons (ds_set (i := 2) B.nd rfl (by first | exact Or.inl rfl | exact Or.inr rfl) (de_if (xLt B (de_var 1) (wLen B (da_cons (de_var 0) da_nil))) (wIx B (de_var 0) (de_var 1)) (wAdd B (wMul B de_int (de_var 1)) de_int)))
  (dss_cons (ds_set (i := 3) B.nd rfl (by first | exact Or.inl rfl | exact Or.inr rfl) (wMul B (wMod B (wInt B (da_cons (wAbs B (da_cons (de_var 2) da_nil)) da_nil)) (wPow B (wPow B de_int de_int) de_int)) (wInt B (da_cons (wGe B (wAbs B (da_cons (de_var 2) da_nil)) (wPow B de_int de_int)) da_nil))))
  (dss_cons (ds_set (i := 4) B.nd rfl (by first | exact Or.inl rfl | exact Or.inr rfl) (wMod B (wInt B (da_cons (de_var 2) da_nil)) de_int))
  (dss_one (ds_ret (de_lst (da_cons (de_var 3) (da_cons (wMod B (wInt B (da_cons (wAdd B (wAdd B (wMul B (de_var 4) de_int) (wMul B (wMul B de_int (de_var 1)) (de_var 1))) de_int) da_nil)) de_int) (da_cons de_int da_nil)))))))))
theorem sc_law_take : FnScope n_law_take ["_law_pot_here", "_law_upto"] (defScope (top 35)) := ⟨rfl, rfl, rfl, by decide +kernel, rfl, by decide +kernel, by decide +kernel⟩
theorem ok_law_take (T : Tp prog K mg base errs fr) {f : Addr} {fd : FuncData} (F : FunD K "_law_take" "_law_take" (defArgs (top 35)) (defBody (top 35)) (defScope (top 35)) [] [] f fd) (hm : mg "_law_take" = some (.ref f))  :
    FnD prog w K mg base 2 f fd ["_law_pot_here", "_law_upto"] (spM ⟨K, mg, errs⟩ 2 5 m_law_take) ∧ Cal prog w K mg base 2 ⟨K, mg, errs⟩ "_law_take" 2 5 m_law_take :=
  Cal.of T F hm sc_law_take (F.bindsN fun _ _ _ _ _ _ us hl => match us, hl with | [_, _], _ => rfl) fun X W cdv A outer s H E hX B hp => by
    subst hX
    exact (dss_cons (ds_if (xGt B (wIx B (de_var 0) de_int) de_int) (dss_cons (ds_set (i := 2) B.nd rfl (by first | exact Or.inl rfl | exact Or.inr rfl) (wMod B (wInt B (da_cons (wIx B (de_var 0) de_int) da_nil)) (de_var 1)))
  (dss_cons (ds_setI set_list setD (wDiv B (wIx B (de_var 0) de_int) (de_var 1)) (de_var 0) de_int)
  (dss_one (ds_ret (de_var 2))))) dss_nil)
  (dss_cons (ds_setI set_list setD (wAdd B (wIx B (de_var 0) de_int) de_int) (de_var 0) de_int)
  (dss_cons (ds_set (i := 3) B.nd rfl (by first | exact Or.inl rfl | exact Or.inr rfl) (wIx B (de_lst (da_cons de_int (da_cons de_int (da_cons de_int (da_cons de_int (da_cons de_int da_nil)))))) (wMod B (wInt B (da_cons (wIx B (de_var 0) de_int) da_nil)) de_int)))
  (dss_cons (ds_set (i := 4) B.nd rfl (by first | exact Or.inl rfl | exact Or.inr rfl) (wMod B (wInt B (da_cons (wPow B (wInt B (da_cons (wAdd B (wAdd B (wIx B (de_var 0) de_int) (wMul B (wMul B de_int (wIx B (de_var 0) de_int)) (wIx B (de_var 0) de_int))) de_int) da_nil)) de_int) da_nil)) (de_var 3)))
  (dss_cons (ds_set (i := 4) B.nd rfl (by first | exact Or.inl rfl | exact Or.inr rfl) (wMod B (wInt B (da_cons (wMul B (de_var 4) (wAdd B (wMod B (wInt B (da_cons (de_var 4) da_nil)) de_int) (wMul B de_int (wIx B (de_var 0) de_int)))) da_nil)) de_int))
  (dss_one (ds_ret (wMod B (wInt B (da_cons (wDiv B (de_var 4) de_int) da_nil)) (de_var 1)))))))))
theorem sc_law_of : FnScope n_law_of ["_law_pot_here", "_law_some"] (defScope (top 36)) := ⟨rfl, rfl, rfl, by decide +kernel, rfl, by decide +kernel, by decide +kernel⟩
theorem ok_law_of (T : Tp prog K mg base errs fr) {f : Addr} {fd : FuncData} (F : FunD K "_law_of" "_law_of" (defArgs (top 36)) (defBody (top 36)) (defScope (top 36)) [] [] f fd) (hm : mg "_law_of" = some (.ref f)) (c_law_take : Cal prog w K mg base 2 ⟨K, mg, errs⟩ "_law_take" 2 5 m_law_take) :
    FnD prog w K mg base 3 f fd ["_law_pot_here", "_law_some"] (spM ⟨K, mg, errs⟩ 2 2 m_law_of) ∧ Cal prog w K mg base 3 ⟨K, mg, errs⟩ "_law_of" 2 2 m_law_of :=
  Cal.of T F hm sc_law_of (F.bindsN fun _ _ _ _ _ _ us hl => match us, hl with | [_, _], _ => rfl) fun X W cdv A outer s H E hX B hp => by
    subst hX
    exact (dss_one (ds_ret (wIx B (de_var 1) (wCall B c_law_take (da_cons (de_var 0) (da_cons (wLen B (da_cons (de_var 1) da_nil)) da_nil))))))
theorem sc_law_cells : FnScope n_law_cells ["_law_script", "_law_limit"] (defScope (top 37)) := ⟨rfl, rfl, rfl, by decide +kernel, rfl, by decide +kernel, by decide +kernel⟩
theorem ok_law_cells (T : Tp prog K mg base errs fr) {f : Addr} {fd : FuncData} (F : FunD K "_law_cells" "_law_cells" (defArgs (top 37)) (defBody (top 37)) (defScope (top 37)) [] [] f fd) (hm : mg "_law_cells" = some (.ref f))  :
    FnD prog w K mg base 2 f fd ["_law_script", "_law_limit"] (spM ⟨K, mg, errs⟩ 2 2 m_law_cells) ∧ Cal prog w K mg base 2 ⟨K, mg, errs⟩ "_law_cells" 2 2 m_law_cells :=
  Cal.of T F hm sc_law_cells (F.bindsN fun _ _ _ _ _ _ us hl => match us, hl with | [_, _], _ => rfl) fun X W cdv A outer s H E hX B hp => by
    subst hX
    exact (dss_one (ds_ret (wLrg B (wMax B (da_cons de_int (da_cons (wMin B (da_cons (de_var 1) (da_cons (wLen B (da_cons (de_var 0) da_nil)) da_nil))) da_nil))))))
theorem sc_law_odd : FnScope n_law_odd ["_law_pot_here"] (defScope (top 38)) := ⟨rfl, rfl, rfl, by decide +kernel, rfl, by decide +kernel, by decide +kernel⟩
theorem ok_law_odd (T : Tp prog K mg base errs fr) {f : Addr} {fd : FuncData} (F : FunD K "_law_odd" "_law_odd" (defArgs (top 38)) (defBody (top 38)) (defScope (top 38)) [] [] f fd) (hm : mg "_law_odd" = some (.ref f)) (c_law_of : Cal prog w K mg base 3 ⟨K, mg, errs⟩ "_law_of" 2 2 m_law_of) :
    FnD prog w K mg base 4 f fd ["_law_pot_here"] (spM ⟨K, mg, errs⟩ 1 2 m_law_odd) ∧ Cal prog w K mg base 4 ⟨K, mg, errs⟩ "_law_odd" 1 2 m_law_odd :=
  Cal.of T F hm sc_law_odd (F.bindsN fun _ _ _ _ _ _ us hl => match us, hl with | [_], _ => rfl) fun X W cdv A outer s H E hX B hp => by
    subst hX
    exact (dss_cons (ds_set (i := 1) B.nd rfl (by first | exact Or.inl rfl | exact Or.inr rfl) (de_lst (da_cons de_non (da_cons de_bl (da_cons de_bl (da_cons de_int (da_cons de_int (da_cons (wNeg B de_int) (da_cons de_int (da_cons (wPow B de_int de_int) (da_cons de_str (da_cons de_str (da_cons de_str (da_cons (de_tup da_nil) (da_cons (de_lst da_nil) (da_cons de_disp0 (da_cons (de_tup (da_cons de_int da_nil)) (da_cons (de_tup (da_cons (de_tup da_nil) da_nil)) (da_cons (de_lst (da_cons de_int da_nil)) (da_cons (de_tup (da_cons de_str (da_cons de_str da_nil))) (da_cons de_str da_nil)))))))))))))))))))))
  (dss_one (ds_ret (wCall B c_law_of (da_cons (de_var 0) (da_cons (wAdd B (de_var 1) (de_lst (da_cons (de_tup (da_cons de_str (da_cons de_str da_nil))) (da_cons (de_tup (da_cons de_int (da_cons de_int (da_cons de_int da_nil)))) (da_cons (de_tup (da_cons de_int (da_cons de_int (da_cons de_int da_nil)))) (da_cons (de_tup (da_cons de_str da_nil)) (da_cons (de_disp (ps := [((eC (.str "a")), (eC (.int 1)))]) (pps_cons de_str de_int pps_nil) rfl rfl (by intro h; cases h) (by decide)) (da_cons de_str (da_cons (de_tup (da_cons de_bl (da_cons de_int (da_cons de_int da_nil)))) (da_cons (de_lst (da_cons de_str (da_cons de_str da_nil))) da_nil)))))))))) da_nil))))))
theorem sc_law_made : FnScope n_law_made ["_law_value"] (defScope (top 39)) := ⟨rfl, rfl, rfl, by decide +kernel, rfl, by decide +kernel, by decide +kernel⟩
theorem ok_law_made (T : Tp prog K mg base errs fr) {f : Addr} {fd : FuncData} (F : FunD K "_law_made" "_law_made" (defArgs (top 39)) (defBody (top 39)) (defScope (top 39)) [] [] f fd) (hm : mg "_law_made" = some (.ref f))  :
    FnD prog w K mg base 2 f fd ["_law_value"] (spM ⟨K, mg, errs⟩ 1 2 m_law_made) ∧ Cal prog w K mg base 2 ⟨K, mg, errs⟩ "_law_made" 1 2 m_law_made :=
  Cal.of T F hm sc_law_made (F.bindsN fun _ _ _ _ _ _ us hl => match us, hl with | [_], _ => rfl) fun X W cdv A outer s H E hX B hp => by
    subst hX
    exact (dss_cons (ds_set (i := 1) B.nd rfl (by first | exact Or.inl rfl | exact Or.inr rfl) (de_lst (da_cons (wErr B (da_cons (de_var 0) da_nil) (by decide +kernel : ("BadClaim" : Str) ∈ errs)) (da_cons (wErr B (da_cons (de_var 0) da_nil) (by decide +kernel : ("BadCounts" : Str) ∈ errs)) (da_cons (wErr B (da_cons (de_var 0) da_nil) (by decide +kernel : ("BadJournal" : Str) ∈ errs)) (da_cons (wErr B (da_cons (de_var 0) da_nil) (by decide +kernel : ("BadLine" : Str) ∈ errs)) (da_cons (wErr B (da_cons (de_var 0) da_nil) (by decide +kernel : ("BadMark" : Str) ∈ errs)) (da_cons (wErr B (da_cons (de_var 0) da_nil) (by decide +kernel : ("BadNumber" : Str) ∈ errs)) da_nil))))))))
  (dss_cons (ds_expr (wExt B (de_var 1) (da_cons (de_lst (da_cons (wErr B (da_cons (de_var 0) da_nil) (by decide +kernel : ("BadOffers" : Str) ∈ errs)) (da_cons (wErr B (da_cons (de_var 0) da_nil) (by decide +kernel : ("BadPlace" : Str) ∈ errs)) (da_cons (wErr B (da_cons (de_var 0) da_nil) (by decide +kernel : ("BadRanking" : Str) ∈ errs)) (da_cons (wErr B (da_cons (de_var 0) da_nil) (by decide +kernel : ("BadSaying" : Str) ∈ errs)) (da_cons (wErr B (da_cons (de_var 0) da_nil) (by decide +kernel : ("BadSayings" : Str) ∈ errs)) da_nil)))))) da_nil)))
  (dss_cons (ds_expr (wExt B (de_var 1) (da_cons (de_lst (da_cons (wErr B (da_cons (de_var 0) da_nil) (by decide +kernel : ("BadSpot" : Str) ∈ errs)) (da_cons (wErr B (da_cons (de_var 0) da_nil) (by decide +kernel : ("BadTown" : Str) ∈ errs)) (da_cons (wErr B (da_cons (de_var 0) da_nil) (by decide +kernel : ("BadVillage" : Str) ∈ errs)) (da_cons (wErr B (da_cons (de_var 0) da_nil) (by decide +kernel : ("BadWishes" : Str) ∈ errs)) (da_cons (wErr B (da_cons (de_var 0) da_nil) (by decide +kernel : ("Contrary" : Str) ∈ errs)) (da_cons (wErr B (da_cons (de_var 0) da_nil) (by decide +kernel : ("Few" : Str) ∈ errs)) da_nil))))))) da_nil)))
  (dss_cons (ds_expr (wExt B (de_var 1) (da_cons (de_lst (da_cons (wErr B (da_cons (de_var 0) da_nil) (by decide +kernel : ("Full" : Str) ∈ errs)) (da_cons (wErr B (da_cons (de_var 0) da_nil) (by decide +kernel : ("NoCrowd" : Str) ∈ errs)) (da_cons (wErr B (da_cons (de_var 0) da_nil) (by decide +kernel : ("NoPlace" : Str) ∈ errs)) (da_cons (wErr B (da_cons (de_var 0) da_nil) (by decide +kernel : ("NoRanking" : Str) ∈ errs)) (da_cons (wErr B (da_cons (de_var 0) da_nil) (by decide +kernel : ("NoRankings" : Str) ∈ errs)) (da_cons (wErr B (da_cons (de_var 0) da_nil) (by decide +kernel : ("NoSaying" : Str) ∈ errs)) da_nil))))))) da_nil)))
  (dss_cons (ds_expr (wExt B (de_var 1) (da_cons (de_lst (da_cons (wErr B (da_cons (de_var 0) da_nil) (by decide +kernel : ("NoSpot" : Str) ∈ errs)) (da_cons (wErr B (da_cons (de_var 0) da_nil) (by decide +kernel : ("NothingToRedo" : Str) ∈ errs)) (da_cons (wErr B (da_cons (de_var 0) da_nil) (by decide +kernel : ("NothingToUndo" : Str) ∈ errs)) (da_cons (wErr B (da_cons (de_var 0) da_nil) (by decide +kernel : ("NoTrial" : Str) ∈ errs)) (da_cons (wErr B (da_cons (de_var 0) da_nil) (by decide +kernel : ("OtherNames" : Str) ∈ errs)) da_nil)))))) da_nil)))
  (dss_one (ds_ret (wAdd B (de_var 1) (de_lst (da_cons (wErr B (da_cons (de_var 0) da_nil) (by decide +kernel : ("OtherTown" : Str) ∈ errs)) (da_cons (wErr B (da_cons (de_var 0) da_nil) (by decide +kernel : ("Same" : Str) ∈ errs)) (da_cons (wErr B (da_cons (de_var 0) da_nil) (by decide +kernel : ("TooMany" : Str) ∈ errs)) da_nil))))))))))))
theorem sc_law_marks : FnScope n_law_marks ["_law_error"] (defScope (top 40)) := ⟨rfl, rfl, rfl, by decide +kernel, rfl, by decide +kernel, by decide +kernel⟩
theorem ok_law_marks (T : Tp prog K mg base errs fr) {f : Addr} {fd : FuncData} (F : FunD K "_law_marks" "_law_marks" (defArgs (top 40)) (defBody (top 40)) (defScope (top 40)) [] [] f fd) (hm : mg "_law_marks" = some (.ref f))  :
    FnD prog w K mg base 2 f fd ["_law_error"] (spM ⟨K, mg, errs⟩ 1 2 m_law_marks) ∧ Cal prog w K mg base 2 ⟨K, mg, errs⟩ "_law_marks" 1 2 m_law_marks :=
  Cal.of T F hm sc_law_marks (F.bindsN fun _ _ _ _ _ _ us hl => match us, hl with | [_], _ => rfl) fun X W cdv A outer s H E hX B hp => by
    subst hX
    exact (dss_cons (ds_set (i := 1) B.nd rfl (by first | exact Or.inl rfl | exact Or.inr rfl) (de_lst (da_cons (wIsE B (de_var 0) (by decide +kernel : ("BadClaim" : Str) ∈ errs)) (da_cons (wIsE B (de_var 0) (by decide +kernel : ("BadCounts" : Str) ∈ errs)) (da_cons (wIsE B (de_var 0) (by decide +kernel : ("BadJournal" : Str) ∈ errs)) da_nil)))))
  (dss_cons (ds_expr (wExt B (de_var 1) (da_cons (de_lst (da_cons (wIsE B (de_var 0) (by decide +kernel : ("BadLine" : Str) ∈ errs)) (da_cons (wIsE B (de_var 0) (by decide +kernel : ("BadMark" : Str) ∈ errs)) (da_cons (wIsE B (de_var 0) (by decide +kernel : ("BadNumber" : Str) ∈ errs)) da_nil)))) da_nil)))
  (dss_cons (ds_expr (wExt B (de_var 1) (da_cons (de_lst (da_cons (wIsE B (de_var 0) (by decide +kernel : ("BadOffers" : Str) ∈ errs)) (da_cons (wIsE B (de_var 0) (by decide +kernel : ("BadPlace" : Str) ∈ errs)) (da_cons (wIsE B (de_var 0) (by decide +kernel : ("BadRanking" : Str) ∈ errs)) da_nil)))) da_nil)))
  (dss_cons (ds_expr (wExt B (de_var 1) (da_cons (de_lst (da_cons (wIsE B (de_var 0) (by decide +kernel : ("BadSaying" : Str) ∈ errs)) (da_cons (wIsE B (de_var 0) (by decide +kernel : ("BadSayings" : Str) ∈ errs)) (da_cons (wIsE B (de_var 0) (by decide +kernel : ("BadSpot" : Str) ∈ errs)) da_nil)))) da_nil)))
  (dss_cons (ds_expr (wExt B (de_var 1) (da_cons (de_lst (da_cons (wIsE B (de_var 0) (by decide +kernel : ("BadTown" : Str) ∈ errs)) (da_cons (wIsE B (de_var 0) (by decide +kernel : ("BadVillage" : Str) ∈ errs)) (da_cons (wIsE B (de_var 0) (by decide +kernel : ("BadWishes" : Str) ∈ errs)) da_nil)))) da_nil)))
  (dss_cons (ds_expr (wExt B (de_var 1) (da_cons (de_lst (da_cons (wIsE B (de_var 0) (by decide +kernel : ("Contrary" : Str) ∈ errs)) (da_cons (wIsE B (de_var 0) (by decide +kernel : ("Few" : Str) ∈ errs)) (da_cons (wIsE B (de_var 0) (by decide +kernel : ("Full" : Str) ∈ errs)) da_nil)))) da_nil)))
  (dss_cons (ds_expr (wExt B (de_var 1) (da_cons (de_lst (da_cons (wIsE B (de_var 0) (by decide +kernel : ("NoCrowd" : Str) ∈ errs)) (da_cons (wIsE B (de_var 0) (by decide +kernel : ("NoPlace" : Str) ∈ errs)) (da_cons (wIsE B (de_var 0) (by decide +kernel : ("NoRanking" : Str) ∈ errs)) da_nil)))) da_nil)))
  (dss_cons (ds_expr (wExt B (de_var 1) (da_cons (de_lst (da_cons (wIsE B (de_var 0) (by decide +kernel : ("NoRankings" : Str) ∈ errs)) (da_cons (wIsE B (de_var 0) (by decide +kernel : ("NoSaying" : Str) ∈ errs)) (da_cons (wIsE B (de_var 0) (by decide +kernel : ("NoSpot" : Str) ∈ errs)) da_nil)))) da_nil)))
  (dss_cons (ds_expr (wExt B (de_var 1) (da_cons (de_lst (da_cons (wIsE B (de_var 0) (by decide +kernel : ("NothingToRedo" : Str) ∈ errs)) (da_cons (wIsE B (de_var 0) (by decide +kernel : ("NothingToUndo" : Str) ∈ errs)) (da_cons (wIsE B (de_var 0) (by decide +kernel : ("NoTrial" : Str) ∈ errs)) da_nil)))) da_nil)))
  (dss_cons (ds_expr (wExt B (de_var 1) (da_cons (de_lst (da_cons (wIsE B (de_var 0) (by decide +kernel : ("OtherNames" : Str) ∈ errs)) (da_cons (wIsE B (de_var 0) (by decide +kernel : ("OtherTown" : Str) ∈ errs)) (da_cons (wIsE B (de_var 0) (by decide +kernel : ("Same" : Str) ∈ errs)) da_nil)))) da_nil)))
  (dss_one (ds_ret (wAdd B (de_var 1) (de_lst (da_cons (wIsE B (de_var 0) (by decide +kernel : ("TooMany" : Str) ∈ errs)) da_nil)))))))))))))))
theorem sc_law_right : FnScope n_law_right ["_law_pot_here"] (defScope (top 41)) := ⟨rfl, rfl, rfl, by decide +kernel, rfl, by decide +kernel, by decide +kernel⟩
theorem ok_law_right (T : Tp prog K mg base errs fr) {f : Addr} {fd : FuncData} (F : FunD K "_law_right" "_law_right" (defArgs (top 41)) (defBody (top 41)) (defScope (top 41)) [] [] f fd) (hm : mg "_law_right" = some (.ref f)) (c_law_made : Cal prog w K mg base 4 ⟨K, mg, errs⟩ "_law_made" 1 2 m_law_made) (c_law_marks : Cal prog w K mg base 4 ⟨K, mg, errs⟩ "_law_marks" 1 2 m_law_marks) (c_law_odd : Cal prog w K mg base 4 ⟨K, mg, errs⟩ "_law_odd" 1 2 m_law_odd) (c_law_of : Cal prog w K mg base 4 ⟨K, mg, errs⟩ "_law_of" 2 2 m_law_of) :
    FnD prog w K mg base 5 f fd ["_law_pot_here"] (spM ⟨K, mg, errs⟩ 1 7 m_law_right) ∧ Cal prog w K mg base 5 ⟨K, mg, errs⟩ "_law_right" 1 7 m_law_right :=
  Cal.of T F hm sc_law_right (F.bindsN fun _ _ _ _ _ _ us hl => match us, hl with | [_], _ => rfl) fun X W cdv A outer s H E hX B hp => by
    subst hX
    exact (dss_cons (ds_set (i := 1) B.nd rfl (by first | exact Or.inl rfl | exact Or.inr rfl) (wCall B c_law_of (da_cons (de_var 0) (da_cons (de_lst (da_cons (wCall B c_law_odd (da_cons (de_var 0) da_nil)) (da_cons (de_tup (da_cons (wCall B c_law_odd (da_cons (de_var 0) da_nil)) (da_cons de_int da_nil))) (da_cons (de_lst (da_cons (wCall B c_law_odd (da_cons (de_var 0) da_nil)) da_nil)) (da_cons (de_disp (ps := [((eC (.str "a")), (eCall 1 2 m_law_odd [(eV 0)]))]) (pps_cons de_str (wCall B c_law_odd (da_cons (de_var 0) da_nil)) pps_nil) rfl rfl (by intro h; cases h) (by decide)) da_nil))))) da_nil))))
  (dss_cons (ds_set (i := 2) B.nd rfl (by first | exact Or.inl rfl | exact Or.inr rfl) (wCall B c_law_made (da_cons (de_var 1) da_nil)))
  (dss_cons (ds_for hp B.hc (di_enum B.ct.k (by rfl) (B.free _ (by decide)) (da_cons (de_var 2) da_nil)) (dg_tup B.ct.k B.hc (dgs_cons (dg_name (i := 3) B.nd rfl (by first | exact Or.inl rfl | exact Or.inr rfl)) (dgs_cons (dg_name (i := 4) B.nd rfl (by first | exact Or.inl rfl | exact Or.inr rfl)) dgs_nil))) (dss_cons (ds_if (PWd.pt (dw_or (dt_not (pt_valD (wIsE B (de_var 4) (by decide +kernel : ("HomeError" : Str) ∈ errs)))) (dw_or1 (dt_not (pt_valD (wIsT B (de_var 4) bo_VE)))))) (dss_one (ds_ret de_bl)) dss_nil)
  (dss_one (ds_if (PWd.pt (dw_or (xNe B (wRepr B (da_cons (wVal B (de_var 4)) da_nil)) (wRepr B (da_cons (de_var 1) da_nil))) (dw_or1 (xNe B (wCall B c_law_marks (da_cons (de_var 4) da_nil)) (de_lc (own := [("_law_place", 6)]) B.hc B.nd (by decide : ∀ i ∈ (([("_law_place", 6)] : List (Str × Nat)).map (·.2)), 1 ≤ i) (by decide) (di_range (by rfl) (B.free _ (by decide)) (da_cons (wLen B (da_cons (de_var 2) da_nil)) da_nil)) (blkOk_by (own := [("_law_place", 6)]) (N := n_law_right) (sc := defScope (top 41)) (by decide +kernel)) (fun _ _ _ _ _ => (dg_name (i := 6) B.blk.nd rfl (by first | exact Or.inl rfl | exact Or.inr rfl))) (fun _ _ _ _ _ => dts_nil) (fun _ _ _ _ _ => (wEq B.blk (de_var 3) (de_var 6)))))))) (dss_one (ds_ret de_bl)) dss_nil))))
  (dss_cons (ds_set (i := 5) B.nd rfl (by first | exact Or.inl rfl | exact Or.inr rfl) (wErr B (da_cons (de_var 1) da_nil) (by decide +kernel : ("HomeError" : Str) ∈ errs)))
  (dss_one (ds_ret (de_and (wEq B (wRepr B (da_cons (wVal B (de_var 5)) da_nil)) (wRepr B (da_cons (de_var 1) da_nil))) (de_and (wIsT B (de_var 5) bo_VE) (de_one (de_not (wAny B (da_cons (wCall B c_law_marks (da_cons (de_var 5) da_nil)) da_nil))))))))))))
theorem sc_law : FnScope n_law ["_law_script"] (defScope (top 42)) := ⟨rfl, rfl, rfl, by decide +kernel, rfl, by decide +kernel, by decide +kernel⟩
theorem ok_law (T : Tp prog K mg base errs fr) {f : Addr} {fd : FuncData} (F : FunD K "law" "law" (defArgs (top 42)) (defBody (top 42)) (defScope (top 42)) [] [] f fd) (hm : mg "law" = some (.ref f)) (c_law_cells : Cal prog w K mg base 5 ⟨K, mg, errs⟩ "_law_cells" 2 2 m_law_cells) (c_law_pot : Cal prog w K mg base 5 ⟨K, mg, errs⟩ "_law_pot" 2 5 m_law_pot) (c_law_right : Cal prog w K mg base 5 ⟨K, mg, errs⟩ "_law_right" 1 7 m_law_right) :
    FnD prog w K mg base 6 f fd ["_law_script"] (spM ⟨K, mg, errs⟩ 1 4 m_law) ∧ Cal prog w K mg base 6 ⟨K, mg, errs⟩ "law" 1 4 m_law :=
  Cal.of T F hm sc_law (F.bindsN fun _ _ _ _ _ _ us hl => match us, hl with | [_], _ => rfl) fun X W cdv A outer s H E hX B hp => by
    subst hX
    exact (dss_cons (ds_for hp B.hc (di_list B.ct.k (wCall B c_law_cells (da_cons (de_var 0) (da_cons de_int da_nil)))) (dg_name (i := 1) B.nd rfl (by first | exact Or.inl rfl | exact Or.inr rfl)) (dss_cons (ds_set (i := 2) B.nd rfl (by first | exact Or.inl rfl | exact Or.inr rfl) (wCall B c_law_pot (da_cons (de_var 0) (da_cons (de_var 1) da_nil))))
  (dss_one (ds_if (dt_not (pt_valD (wAll B (da_cons (de_lc (own := [("_law_lap", 3)]) B.hc B.nd (by decide : ∀ i ∈ (([("_law_lap", 3)] : List (Str × Nat)).map (·.2)), 1 ≤ i) (by decide) (di_range (by rfl) (B.free _ (by decide)) (da_cons de_int da_nil)) (blkOk_by (own := [("_law_lap", 3)]) (N := n_law) (sc := defScope (top 42)) (by decide +kernel)) (fun _ _ _ _ _ => (dg_name (i := 3) B.blk.nd rfl (by first | exact Or.inl rfl | exact Or.inr rfl))) (fun _ _ _ _ _ => dts_nil) (fun _ _ _ _ _ => (wCall B.blk c_law_right (da_cons (de_var 2) da_nil)))) da_nil)))) (dss_one (ds_ret de_bl)) dss_nil))))
  (dss_one (ds_ret de_bl)))
end
end K00

set_option Elab.async false
set_option linter.all false
set_option maxRecDepth 100000
set_option maxHeartbeats 1000000
set_option exponentiation.threshold 10000
namespace K00
open PySem PySem.Spec L2 DL
open PyProof.Rows hiding St
def Pot (N : Nat) (d : D) : Prop := ∃ a b c : Int, d = .lst [.int a, .int b, .int c] ∧ 0 ≤ a ∧ 0 ≤ b ∧ b.natAbs < 2 ^ 900 ∧ 0 ≤ c ∧ c ≤ N
theorem prime_at (c : Int) : ∃ P : Int, ixF (.lst [.int 2147483647, .int 2147483629, .int 2147483587, .int 2147483579, .int 2147483563]) (.int (c % 5)) = some (.val (.int P)) ∧ 0 < P ∧ P.natAbs < 2 ^ 31 := by
  have h0 := Int.emod_nonneg c (by decide : (5 : Int) ≠ 0)
  have h1 := Int.emod_lt_of_pos c (by decide : (0 : Int) < 5)
  generalize c % 5 = m at h0 h1
  obtain rfl | rfl | rfl | rfl | rfl : m = 0 ∨ m = 1 ∨ m = 2 ∨ m = 3 ∨ m = 4 := by omega
  all_goals exact ⟨_, rfl, by decide, by decide⟩
theorem ix0 (x y z : D) : ixF (.lst [x, y, z]) (.int 0) = some (.val x) := rfl
theorem ix1 (x y z : D) : ixF (.lst [x, y, z]) (.int 1) = some (.val y) := rfl
theorem ix2 (x y z : D) : ixF (.lst [x, y, z]) (.int 2) = some (.val z) := rfl
theorem nab_mul {i j : Int} {a b : Nat} (ha : i.natAbs < 2 ^ a) (hb : j.natAbs < 2 ^ b) : (i * j).natAbs < 2 ^ (a + b) := wide_lt ha hb
theorem nab_add {i j : Int} {a b : Nat} (ha : i.natAbs < 2 ^ a) (hb : j.natAbs < 2 ^ b) : (i + j).natAbs < 2 ^ (max a b + 1) := by
  have h1 : 2 ^ a ≤ 2 ^ (max a b) := Nat.pow_le_pow_right (by decide) (Nat.le_max_left _ _)
  have h2 : 2 ^ b ≤ 2 ^ (max a b) := Nat.pow_le_pow_right (by decide) (Nat.le_max_right _ _)
  have h3 := Int.natAbs_add_le i j
  rw [Nat.pow_succ]; omega
theorem take_run {N : Nat} {p : D} (hp : Pot N p) (hN : N + 1 < 2 ^ 900) {n : Int} (hn : 0 < n) (hn2 : n.natAbs < 2 ^ 60) :
    ∃ r p' rest, m_law_take (startD 5 [some (true, p), some (false, .int n)]) = .ok (.rt (.val (.int r))) (some (true, p') :: rest) ∧ 0 ≤ r ∧ r < n ∧ Pot (N + 1) p' := by
  obtain ⟨a, b, c, rfl, h1, h2, h3, h4, h5⟩ := hp
  have hl : n.natAbs.log2 < 9000 := Nat.lt_of_lt_of_le (log2_lt hn2 (by decide)) (by decide)
  by_cases ha : 0 < a
  · refine ⟨a % n, .lst [.int (a / n), .int b, .int c], [some (false, .int n), some (false, .int (a % n)), none, none], ?_, Int.emod_nonneg _ (by omega), Int.emod_lt_of_pos _ hn, a / n, b, c, rfl, Int.ediv_nonneg h1 (by omega), h2, h3, h4, by omega⟩
    simp [m_law_take, startD, sSeq, sIf, tV, e2, eV, eC, nrm, nrmO, fin2, look, ixF, atI, ixN, gtF, finT, eB, eA, finB, looks, intF, sAsg, rsv, asg, okSet, isCont, modF, hn, hl, ha, List.replicate, sSetI, takeO, divF, setF, finS, sRet, retO]
  · obtain ⟨P, hP, P0, P1⟩ := prime_at (c + 1)
    have b1 : (c + 1).natAbs < 2 ^ 900 := by omega
    have m1 : mulF (.int 100801) (.int (c + 1)) = some (.val (.int (100801 * (c + 1)))) := mulF_ok 17 900 (by decide) b1
    have b2 : (100801 * (c + 1)).natAbs < 2 ^ (17 + 900) := nab_mul (by decide) b1
    have m2 : mulF (.int (100801 * (c + 1))) (.int (c + 1)) = some (.val (.int (100801 * (c + 1) * (c + 1)))) := mulF_ok _ _ b2 b1
    have b3 := nab_mul b2 b1
    have b4 := nab_add h3 b3
    have b5 := nab_add b4 (show (71 : Int).natAbs < 2 ^ 7 by decide)
    have p1 : powF (.int (b + 100801 * (c + 1) * (c + 1) + 71)) (.int 3) = some (.val (.int ((b + 100801 * (c + 1) * (c + 1) + 71) ^ 3))) := by
      show (if _ then _ else _) = _
      have := log2_lt b5 (by decide)
      have e : max (max 900 (17 + 900 + 900) + 1) 7 + 1 = 1819 := by decide
      rw [e] at this
      exact if_pos ⟨by decide, by show _ * 3 ≤ _; omega⟩
    have q1 : 0 ≤ (b + 100801 * (c + 1) * (c + 1) + 71) ^ 3 % P := Int.emod_nonneg _ (by omega)
    have q2 : (b + 100801 * (c + 1) * (c + 1) + 71) ^ 3 % P < P := Int.emod_lt_of_pos _ P0
    have m3 : mulF (.int 197) (.int (c + 1)) = some (.val (.int (197 * (c + 1)))) := mulF_ok 8 900 (by decide) b1
    generalize hX : (b + 100801 * (c + 1) * (c + 1) + 71) ^ 3 = X at p1 q1 q2
    have b6 : (X % P).natAbs < 2 ^ 31 := by omega
    have b7 : (X % P % 10433).natAbs < 2 ^ 31 := by omega
    have b8 := nab_add b7 (nab_mul (show (197 : Int).natAbs < 2 ^ 8 by decide) b1)
    have m4 : mulF (.int (X % P)) (.int (X % P % 10433 + 197 * (c + 1))) = some (.val (.int (X % P * (X % P % 10433 + 197 * (c + 1))))) := mulF_ok _ _ b6 b8
    have d1 : Nat.log2 139 < 9000 := by decide
    refine ⟨(X % P * (X % P % 10433 + 197 * (c + 1)) % 2305843009213693907 / 139) % n, .lst [.int a, .int b, .int (c + 1)], ?_, ?_, Int.emod_nonneg _ (by omega), Int.emod_lt_of_pos _ hn, a, b, c + 1, rfl, h1, h2, h3, by omega, by omega⟩
    rotate_left
    · simp [m_law_take, startD, sSeq, sIf, sNil, tV, e2, eV, eC, nrm, nrmO, fin2, look, ix0, ix1, ix2, gtF, finT, eB, eA, finB, looks, intF, sAsg, rsv, asg, okSet, isCont, modF, hn, ha, List.replicate, sSetI, takeO, divF, setF, finS, sRet, retO, eLst, takeAll, addF, m1, m2, m3, m4, p1, hP, P0, ixN, d1]
      rfl
end K00

set_option Elab.async false
set_option linter.all false
set_option maxRecDepth 100000
set_option maxHeartbeats 2000000
set_option exponentiation.threshold 10000
namespace K00
open PySem PySem.Spec L2 DL
open PyProof.Rows hiding St
theorem atI_nat {α : Type} {xs : List α} {r : Int} (h0 : 0 ≤ r) (h1 : r < xs.length) : ∃ x, atI xs r = some x ∧ x ∈ xs := by
  have hl : r.toNat < xs.length := by omega
  refine ⟨xs[r.toNat], ?_, List.getElem_mem hl⟩
  unfold atI ixN
  rw [if_pos h0, if_pos h1]
  show xs[r.toNat]? = _
  exact List.getElem?_eq_getElem hl
/-- what a call leaves of the borrowed pot in slot 0 -/
theorem of_run {N : Nat} {p : D} (hp : Pot N p) (hN : N + 1 < 2 ^ 900) {xs : List D} (h0 : 0 < xs.length) (h1 : xs.length < 2 ^ 60) :
    ∃ x p' rest, m_law_of (startD 2 [some (true, p), some (false, .lst xs)]) = .ok (.rt (.val x)) (some (true, p') :: rest) ∧ x ∈ xs ∧ Pot (N + 1) p' := by
  obtain ⟨r, p', rest, e, r0, r1, hp'⟩ := take_run hp hN (n := (xs.length : Int)) (by omega) (by omega)
  obtain ⟨x, ex, hx⟩ := atI_nat r0 r1
  refine ⟨x, p', [some (false, .lst xs)], ?_, hx, hp'⟩
  have e' : m_law_take [some (true, p), some (false, .int xs.length), none, none, none] = .ok (.rt (.val (.int r))) (some (true, p') :: rest) := e
  simp [m_law_of, startD, sRet, e2, eV, nrm, nrmO, eCall, eA, eB, finB, looks, look, lenF, callM, argsS, argS, ownIx, apart, e', finC, backD, fin2, ixF, ex, retO]
theorem of_run' {N : Nat} {p : D} (hp : Pot N p) (hN : N + 1 < 2 ^ 900) {xs : List D} (h0 : 0 < xs.length) (h1 : xs.length < 2 ^ 60) :
    ∃ x p' rest, m_law_of [some (true, p), some (false, .lst xs)] = .ok (.rt (.val x)) (some (true, p') :: rest) ∧ x ∈ xs ∧ Pot (N + 1) p' := of_run hp hN h0 h1
def oddL : List D := [.non, .bl true, .bl false, .int 0, .int 1, .int (-1), .int 2, .int 100000000, .str "", .str "a", .str "near", .tup [], .lst [], .dK [], .tup [.int 0], .tup [.tup []], .lst [.int 0], .tup [.str "a", .str "b"], .str "zz",
  .tup [.str "near", .str "a"], .tup [.int 0, .int 0, .int 0], .tup [.int 1, .int 1, .int 1], .tup [.str "a"], .dK [(.inr "a", .int 1)], .str "A", .tup [.bl true, .int 0, .int 1], .lst [.str "a", .str "b"]]
def oddArg (p : D) : R (List Opd) := .ok [.slot 0, .val (.lst oddL)] [some (true, p), some (true, .lst (oddL.take 19))]
theorem odd_run {N : Nat} {p : D} (hp : Pot N p) (hN : N + 1 < 2 ^ 900) :
    ∃ x p' rest, m_law_odd [some (true, p), none] = .ok (.rt (.val x)) (some (true, p') :: rest) ∧ x ∈ oddL ∧ Pot (N + 1) p' := by
  obtain ⟨x, p', rest, e, hx, hp'⟩ := of_run' hp hN (xs := oddL) (by decide) (by decide)
  refine ⟨x, p', [some (true, .lst (oddL.take 19))], ?_, hx, hp'⟩
  have s1 : m_law_odd [some (true, p), none] = (sRet 1 (fun ρ => (oddArg p).bind (callM 2 2 m_law_of))) [some (true, p), none] := by
    kernel_rfl
  rw [s1]
  simp [oddArg, sRet, callM, argsS, argS, ownIx, apart, startD, e, finC, backD, retO]
end K00

set_option Elab.async false
set_option linter.all false
set_option maxRecDepth 100000
set_option maxHeartbeats 2000000
set_option exponentiation.threshold 10000
namespace K00
open PySem PySem.Spec L2 DL
open PyProof.Rows hiding St
def names : List Str := ["BadClaim", "BadCounts", "BadJournal", "BadLine", "BadMark", "BadNumber", "BadOffers", "BadPlace", "BadRanking", "BadSaying", "BadSayings", "BadSpot", "BadTown", "BadVillage", "BadWishes", "Contrary", "Few", "Full", "NoCrowd", "NoPlace", "NoRanking", "NoRankings", "NoSaying", "NoSpot", "NothingToRedo", "NothingToUndo", "NoTrial", "OtherNames", "OtherTown", "Same", "TooMany"]
def madeL (v : D) : List D := names.map fun c => .exc c v
theorem made_run (v : D) : m_law_made [some (false, v), none] = .ok (.rt (.own (.lst (madeL v)))) [some (false, v), some (true, .lst ((names.take 28).map fun c => .exc c v))] := by
  kernel_rfl
def markB (c : Str) : List Bool := names.map fun c' => decide (c = c') || decide (c' = "HomeError")
theorem marks_run (c : Str) (v : D) : m_law_marks [some (false, .exc c v), none] = .ok (.rt (.own (.lst ((markB c).map .bl)))) [some (false, .exc c v), some (true, .lst (((markB c).take 30).map .bl))] := by
  kernel_rfl
theorem eq_int (i j : Int) : eqF (.int i) (.int j) = some (.val (.bl (i == j))) := rfl
theorem ne_str {s : Str} (h1 : SeqAt.shaped (PyData.str s) = true) : neF (.str s) (.str s) = some (.val (.bl false)) := by
  unfold neF eqB
  have h2 : PyData.eqv (PyData.str s) (PyData.str s) = true := by unfold PyData.eqv; simp
  simp [toPy, h1, h2]
theorem eq_str {s : Str} (h1 : SeqAt.shaped (PyData.str s) = true) : eqF (.str s) (.str s) = some (.val (.bl true)) := by
  unfold eqF eqB
  have h2 : PyData.eqv (PyData.str s) (PyData.str s) = true := by unfold PyData.eqv; simp
  simp [toPy, h1, h2]
theorem spots_ok : ∀ k < 31, ∃ c, names[k]? = some c ∧ eqB (.lst ((markB c).map .bl)) (.lst ((List.range 31).map fun j => .bl (((k : Nat) : Int) == ((j : Nat) : Int)))) = some true := by
  have h : (List.range 31).all (fun k => match names[k]? with | some c => decide (eqB (.lst ((markB c).map .bl)) (.lst ((List.range 31).map fun j => .bl (((k : Nat) : Int) == ((j : Nat) : Int)))) = some true) | none => false) = true := by decide +kernel
  intro k hk
  have := List.all_eq_true.mp h k (List.mem_range.mpr hk)
  split at this
  · rename_i c e; exact ⟨c, e, of_decide_eq_true this⟩
  · cases this
theorem lc_go (p v : D) (L : List D) (k : Int) (er : D) (b : Slot) : ∀ (js : List Nat) (acc : List D), acc.length + js.length ≤ 16777216 →
    lcGo [6] (tgN 1 6) tYes' (e2 (eV 3) (eV 6) eqF) (js.map fun j => .int ((j : Nat) : Int)) acc [some (true, p), some (false, v), some (false, .lst L), some (false, .int k), some (false, er), b, none] =
      .ok (acc ++ js.map fun j => .bl (k == ((j : Nat) : Int))) [some (true, p), some (false, v), some (false, .lst L), some (false, .int k), some (false, er), b, none]
  | [], acc, _ => by simp [lcGo]
  | j :: js, acc, h => by
    have hl : acc.length < 16777216 := by rw [List.length_cons] at h; omega
    rw [List.map_cons]
    unfold lcGo
    simp only [tgN, okSet, isCont, List.set_cons_succ, List.set_cons_zero, tYes', e2, eV, nrm, nrmO, fin2, look, R.bind_ok, List.getElem?_cons_succ, List.getElem?_cons_zero, eq_int, takeO, hl, if_true, wipeD, Nat.reduceLeDiff, decide_true, Bool.true_or]
    rw [lc_go p v L k er b js _ (by rw [List.length_append, List.length_singleton]; rw [List.length_cons] at h; omega)]
    simp
def valL : List D := oddL.flatMap fun x => [x, .tup [x, .int 3], .lst [x], .dK [(.inr "a", x)]]
theorem repr_ok : ∀ v ∈ valL, ∃ s, reprF [v] = some (.val (.str s)) ∧ SeqAt.shaped (PyData.str s) = true := by
  have h : valL.all (fun v => match reprF [v] with | some (.val (.str s)) => SeqAt.shaped (PyData.str s) | _ => false) = true := by decide +kernel
  intro v hv
  have := List.all_eq_true.mp h v hv
  split at this
  · rename_i s e; exact ⟨s, e, this⟩
  · cases this
abbrev cMarks : M Opd := eCall 1 2 m_law_marks [(eV 4)]
abbrev cSpots : M Opd := eLc (iRng [(eB [(eV 2)] lenF)]) [6] (tgN 1 6) tYes' (e2 (eV 3) (eV 6) eqF)
abbrev tCls : M Bool := (tOr' (tNot' (tV (e1 (eV 4) (isiF (.err "HomeError"))))) (tNot' (tV (e1 (eV 4) (isiF (.ty "ValueError"))))))
abbrev tRep : M Bool := (tV (e2 (eB [(e1 (eV 4) valF)] reprF) (eB [(eV 1)] reprF) neF))
/-- the loop's body -/
def bodyR : M Fl := (sSeq (sIf tCls (sRet 1 (eC (.bl false))) sNil)
  (sIf (tOr' tRep (tV (e2 cMarks cSpots neF))) (sRet 1 (eC (.bl false))) sNil))
theorem cls_run (p v L : D) (k : Int) (c : Str) (b : Slot) : tCls [some (true, p), some (false, v), some (false, L), some (false, .int k), some (false, .exc c v), b, none] = .ok false [some (true, p), some (false, v), some (false, L), some (false, .int k), some (false, .exc c v), b, none] := by
  have i1 : isiF (.err "HomeError") (.exc c v) = some (.val (.bl true)) := by simp [isiF, isiB]
  have i2 : isiF (.ty "ValueError") (.exc c v) = some (.val (.bl true)) := by simp [isiF, isiB, isTyB]
  simp [tOr', tNot', tV, e1, eV, nrm, nrmO, fin1, look, finT, i1, i2]
theorem rep_run (p v L : D) {s : Str} (hs : reprF [v] = some (.val (.str s))) (sh : SeqAt.shaped (PyData.str s) = true) (k : Int) (c : Str) (b : Slot) : tRep [some (true, p), some (false, v), some (false, L), some (false, .int k), some (false, .exc c v), b, none] = .ok false [some (true, p), some (false, v), some (false, L), some (false, .int k), some (false, .exc c v), b, none] := by
  simp [tV, e1, e2, eV, nrm, nrmO, fin1, fin2, look, finT, eB, eA, finB, looks, valF, hs, ne_str sh]
theorem cm_run (p v L : D) (k : Int) (c : Str) (b : Slot) : cMarks [some (true, p), some (false, v), some (false, L), some (false, .int k), some (false, .exc c v), b, none] = .ok (.own (.lst ((markB c).map .bl))) [some (true, p), some (false, v), some (false, L), some (false, .int k), some (false, .exc c v), b, none] := by
  have hm := marks_run c v
  generalize (markB c).map D.bl = MB at hm
  generalize ((markB c).take 30).map D.bl = MC at hm
  simp [eCall, eA, eV, nrm, nrmO, callM, argsS, argS, ownIx, apart, startD, hm, finC, backD]
end K00

set_option Elab.async false
set_option linter.all false
set_option maxRecDepth 100000
set_option maxHeartbeats 2000000
set_option exponentiation.threshold 10000
namespace K00
open PySem PySem.Spec L2 DL
open PyProof.Rows hiding St
theorem len_run (ρ : DEnv) (L : List D) (h : ρ[2]? = some (some (false, .lst L))) (hL : L.length < 2 ^ 30) : iRng [(eB [(eV 2)] lenF)] ρ = .ok (rngL 0 L.length) ρ := by
  have e : eA [(eB [(eV 2)] lenF)] ρ = .ok [.val (.int L.length)] ρ := by
    simp only [eA, eB, nrm, eV, h, nrmO, R.bind_ok, finB, looks, look, lenF]
  have := iRng_ok e (j := (L.length : Int)) rfl (small62 hL).1 (small62 hL).2
  rw [Int.toNat_natCast] at this
  exact this
theorem sp_run {ρ ρ' : DEnv} {ds out : List D} (it : M (List D)) (h1 : it ρ = .ok ds ρ) (h2 : lcGo [6] (tgN 1 6) tYes' (e2 (eV 3) (eV 6) eqF) ds [] (wipeD ρ [6]) = .ok out ρ') : eLc it [6] (tgN 1 6) tYes' (e2 (eV 3) (eV 6) eqF) ρ = .ok (.own (.lst out)) ρ' := by
  unfold eLc
  rw [h1, R.bind_ok, h2]
  rfl
def envR (p v : D) (L : List D) (k : Int) (c : Str) (b : Slot) : DEnv := [some (true, p), some (false, v), some (false, .lst L), some (false, .int k), some (false, .exc c v), b, none]
theorem rng_map (n : Nat) : rngL 0 n = (List.range n).map fun j => .int ((j : Nat) : Int) := by unfold rngL; simp
theorem tV2 {f g : M Opd} {F : D → D → Option Opd} {ρ ρ1 ρ2 : DEnv} {a b : Opd} {x y : D} {r : Bool} (h1 : f ρ = .ok a ρ1) (h2 : g ρ1 = .ok b ρ2) (l1 : look (nrmO a) ρ2 = some x) (l2 : look (nrmO b) ρ2 = some y) (h : F x y = some (.val (.bl r))) : tV (e2 f g F) ρ = .ok r ρ2 := by
  have e : e2 f g F ρ = .ok (.val (.bl r)) ρ2 := by
    show (nrm f ρ).bind _ = _
    rw [nrm_ok h1, R.bind_ok, nrm_ok h2, R.bind_ok]
    unfold fin2
    rw [l1, l2]
    dsimp only
    rw [h]
  show (nrm (e2 f g F) ρ).bind finT = _
  rw [nrm_ok e]
  rfl
theorem rg_run (p v : D) (L : List D) (hL : L.length = 31) (k : Nat) (b : Slot) (c : Str) : iRng [(eB [(eV 2)] lenF)] (envR p v L k c b) = .ok (rngL 0 31) (envR p v L k c b) := by
  have := len_run (envR p v L k c b) L rfl (by rw [hL]; omega)
  rw [hL] at this
  exact this
theorem spots_run (p v : D) (L : List D) (k : Nat) (b : Slot) (c : Str) (h : iRng [(eB [(eV 2)] lenF)] (envR p v L k c b) = .ok (rngL 0 31) (envR p v L k c b)) : cSpots (envR p v L k c b) = .ok (.own (.lst ((List.range 31).map fun j => .bl (((k : Nat) : Int) == ((j : Nat) : Int))))) (envR p v L k c b) := by
  have hg := lc_go p v L k (.exc c v) b (List.range 31) [] (by rw [List.length_nil, List.length_range]; omega)
  rw [List.nil_append] at hg
  refine sp_run _ (ds := rngL 0 31) h (by rw [rng_map]; exact hg)
theorem ne_of {a b : D} (h : eqB a b = some true) : neF a b = some (.val (.bl false)) := by unfold neF; rw [h]; rfl
theorem body_gen {ρ : DEnv} {MB SP : List D} (r1 : tCls ρ = .ok false ρ) (r2 : tRep ρ = .ok false ρ) (r3 : cMarks ρ = .ok (.own (.lst MB)) ρ) (r4 : cSpots ρ = .ok (.own (.lst SP)) ρ) (hn : neF (.lst MB) (.lst SP) = some (.val (.bl false))) : bodyR ρ = .ok .nx ρ := by
  have r5 : tV (e2 cMarks cSpots neF) ρ = .ok false ρ := tV2 r3 r4 rfl rfl hn
  unfold bodyR sSeq sIf tOr'
  rw [r1]
  simp only [R.bind_ok, if_false, Bool.false_eq_true, sNil]
  rw [r2]
  simp only [R.bind_ok, if_false, Bool.false_eq_true]
  rw [r5]
  rfl
theorem body_run (p v : D) {s : Str} (hs : reprF [v] = some (.val (.str s))) (sh : SeqAt.shaped (PyData.str s) = true) (L : List D) (hL : L.length = 31) (k : Nat) (b : Slot) {c : Str} (hc : eqB (.lst ((markB c).map .bl)) (.lst ((List.range 31).map fun j => .bl (((k : Nat) : Int) == ((j : Nat) : Int)))) = some true) :
    bodyR (envR p v L k c b) = .ok .nx (envR p v L k c b) :=
  body_gen (cls_run p v (.lst L) k c b) (rep_run p v (.lst L) hs sh k c b) (cm_run p v (.lst L) k c b) (spots_run p v L k b c (rg_run p v L hL k b c)) (ne_of hc)
end K00

set_option Elab.async false
set_option linter.all false
set_option maxRecDepth 100000
set_option maxHeartbeats 2000000
set_option exponentiation.threshold 10000
namespace K00
open PySem PySem.Spec L2 DL
open PyProof.Rows hiding St
abbrev oddC : M Opd := eCall 1 2 m_law_odd [(eV 0)]
theorem odd_call {N : Nat} {p : D} (hp : Pot N p) (hN : N + 1 < 2 ^ 900) (tl : DEnv) : ∃ x p', oddC (some (true, p) :: tl) = .ok (.val x) (some (true, p') :: tl) ∧ x ∈ oddL ∧ Pot (N + 1) p' := by
  obtain ⟨x, p', rest, e, hx, hp'⟩ := odd_run hp hN
  refine ⟨x, p', ?_, hx, hp'⟩
  simp [eCall, eA, eV, nrm, nrmO, callM, argsS, argS, ownIx, apart, startD, e, finC, backD]
theorem val_mem {x : D} (h : x ∈ oddL) : x ∈ valL ∧ (.tup [x, .int 3]) ∈ valL ∧ (.lst [x]) ∈ valL ∧ (.dK [(.inr "a", x)]) ∈ valL := by
  have k : ∀ y, y ∈ [x, D.tup [x, .int 3], .lst [x], .dK [(.inr "a", x)]] → y ∈ valL := fun y hy => List.mem_flatMap.mpr ⟨x, h, hy⟩
  exact ⟨k _ (by simp), k _ (by simp), k _ (by simp), k _ (by simp)⟩
abbrev fourC : M Opd := eLst [oddC, (eTup [oddC, (eC (.int 3))]), (eLst [oddC]), (eDisp [((eC (.str "a")), oddC)])]
theorem four_run {N : Nat} {p : D} (hp : Pot N p) (hN : N + 5 < 2 ^ 900) (tl : DEnv) : ∃ xs p', fourC (some (true, p) :: tl) = .ok (.own (.lst xs)) (some (true, p') :: tl) ∧ xs.length = 4 ∧ (∀ x ∈ xs, x ∈ valL) ∧ Pot (N + 4) p' := by
  obtain ⟨x1, p1, e1, m1, h1⟩ := odd_call hp (by omega) tl
  obtain ⟨x2, p2, e2, m2, h2⟩ := odd_call h1 (by omega) tl
  obtain ⟨x3, p3, e3, m3, h3⟩ := odd_call h2 (by omega) tl
  obtain ⟨x4, p4, e4, m4, h4⟩ := odd_call h3 (by omega) tl
  refine ⟨[x1, .tup [x2, .int 3], .lst [x3], .dK [(.inr "a", x4)]], p4, ?_, rfl, ?_, h4⟩
  · have t2 : eTup [oddC, (eC (.int 3))] (some (true, p1) :: tl) = .ok (.val (.tup [x2, .int 3])) (some (true, p2) :: tl) := eTup_ok (eA_cons e2 (eA_cons rfl eA_nil)) rfl (Nat.le_of_ble_eq_true rfl)
    have t3 : eLst [oddC] (some (true, p2) :: tl) = .ok (.own (.lst [x3])) (some (true, p3) :: tl) := eLst_ok (eA_cons e3 eA_nil) rfl (Nat.le_of_ble_eq_true rfl)
    have t4 : eDisp [((eC (.str "a")), oddC)] (some (true, p3) :: tl) = .ok (.own (.dK [(.inr "a", x4)])) (some (true, p4) :: tl) := by
      show (eP _ _).bind _ = _
      unfold eP
      rw [nrm_eC, R.bind_ok, nrm_ok e4, R.bind_ok]
      rfl
    exact eLst_ok (eA_cons e1 (eA_cons t2 (eA_cons t3 (eA_cons t4 eA_nil)))) rfl (Nat.le_of_ble_eq_true rfl)
  · intro x hx
    simp only [List.mem_cons, List.not_mem_nil, or_false] at hx
    rcases hx with rfl | rfl | rfl | rfl
    · exact (val_mem m1).1
    · exact (val_mem m2).2.1
    · exact (val_mem m3).2.2.1
    · exact (val_mem m4).2.2.2
abbrev valC : M Opd := eCall 2 2 m_law_of [(eV 0), fourC]
theorem value_run {N : Nat} {p : D} (hp : Pot N p) (hN : N + 6 < 2 ^ 900) (tl : DEnv) : ∃ v p', valC (some (true, p) :: tl) = .ok (.val v) (some (true, p') :: tl) ∧ v ∈ valL ∧ Pot (N + 5) p' := by
  obtain ⟨xs, p4, e4, hl, hv, h4⟩ := four_run hp (by omega) tl
  obtain ⟨x, p5, rest, e5, hx, h5⟩ := of_run' h4 (by omega) (xs := xs) (by omega) (by omega)
  refine ⟨x, p5, ?_, hv x hx, h5⟩
  refine eCall_ok (eA_cons (eV_ok rfl) (eA_cons e4 eA_nil)) ?_
  simp [nrmO, callM, argsS, argS, ownIx, apart, startD, e5, finC, backD]
/-- the walk over the errors -/
theorem loop_run (p v : D) {s : Str} (hs : reprF [v] = some (.val (.str s))) (sh : SeqAt.shaped (PyData.str s) = true) (L : List D) (hL : L.length = 31) (b : Slot) : ∀ (cs : List Str) (k : Nat) (x3 x4 : Slot),
    (∀ (i : Nat) (c : Str), cs[i]? = some c → eqB (.lst ((markB c).map .bl)) (.lst ((List.range 31).map fun j => .bl (((k + i : Nat) : Int) == ((j : Nat) : Int)))) = some true) →
    ∃ y3 y4, loopF (tgT 2 [(tgN 1 3), (tgN 1 4)]) bodyR (((cs.map fun c => D.exc c v).zipIdx k).map fun z => .tup [.int (0 + (z.2 : Nat)), z.1]) [some (true, p), some (false, v), some (false, .lst L), x3, x4, b, none] = .ok .nx [some (true, p), some (false, v), some (false, .lst L), y3, y4, b, none]
  | [], k, x3, x4, _ => ⟨x3, x4, rfl⟩
  | c :: cs, k, x3, x4, h => by
    obtain ⟨y3, y4, e⟩ := loop_run p v hs sh L hL b cs (k + 1) (some (false, .int k)) (some (false, .exc c v)) (fun i c' hc => by
      have := h (i + 1) c' (by simpa using hc)
      rw [show k + 1 + i = k + (i + 1) by omega]; exact this)
    refine ⟨y3, y4, ?_⟩
    have hb := body_run p v hs sh L hL k b (h 0 c rfl)
    rw [List.map_cons, List.zipIdx_cons, List.map_cons]
    unfold loopF
    have ht : tgT 2 [(tgN 1 3), (tgN 1 4)] (.tup [.int (0 + (k : Nat)), .exc c v]) [some (true, p), some (false, v), some (false, .lst L), x3, x4, b, none] = some (envR p v L k c b) := by
      rw [Int.zero_add]; rfl
    dsimp only
    rw [ht]
    dsimp only
    rw [hb, R.bind_ok]
    exact e
theorem home_ok : anyF [.lst ((markB "HomeError").map .bl)] = some (.val (.bl false)) := by
  unfold anyF
  dsimp only
  have : ((asBl ((markB "HomeError").map .bl)).map fun bs => bs.any id) = some false := by decide +kernel
  cases e : asBl ((markB "HomeError").map .bl) with
  | none => rw [e] at this; cases this
  | some bs => rw [e] at this; exact congrArg (fun z => some (Opd.val (.bl z))) (Option.some.inj this)
theorem right_run {N : Nat} {p : D} (hp : Pot N p) (hN : N + 6 < 2 ^ 900) : ∃ p' rest, m_law_right [some (true, p), none, none, none, none, none, none] = .ok (.rt (.val (.bl true))) (some (true, p') :: rest) ∧ Pot (N + 5) p' := by
  obtain ⟨v, p', e, hv, hp'⟩ := value_run hp hN [none, none, none, none, none, none]
  obtain ⟨s, hs, sh⟩ := repr_ok v hv
  obtain ⟨y3, y4, el⟩ := loop_run p' v hs sh (madeL v) rfl none names 0 none none (fun i c hc => by
    rw [Nat.zero_add]
    have hi : i < 31 := (List.getElem?_eq_some_iff.mp hc).1
    obtain ⟨c', h1, h2⟩ := spots_ok i hi
    rw [hc] at h1; cases h1
    exact h2)
  let ρ1 : DEnv := [some (true, p'), some (false, v), some (false, .lst (madeL v)), y3, y4, none, none]
  let ρ2 : DEnv := [some (true, p'), some (false, v), some (false, .lst (madeL v)), y3, y4, some (false, .exc "HomeError" v), none]
  refine ⟨p', [some (false, v), some (false, .lst (madeL v)), y3, y4, some (false, .exc "HomeError" v), none], ?_, hp'⟩
  have a1 : sAsg 1 1 valC [some (true, p), none, none, none, none, none, none] = .ok .nx [some (true, p'), some (false, v), none, none, none, none, none] := sAsg_ok e rfl rfl
  have a2 : sAsg 1 2 (eCall 1 2 m_law_made [(eV 1)]) [some (true, p'), some (false, v), none, none, none, none, none] = .ok .nx [some (true, p'), some (false, v), some (true, .lst (madeL v)), none, none, none, none] := by
    refine sAsg_ok (o := .own (.lst (madeL v))) (ρ1 := [some (true, p'), some (false, v), none, none, none, none, none]) (eCall_ok (eA_cons (eV_ok rfl) eA_nil) ?_) rfl rfl
    have hm := made_run v
    generalize madeL v = ML at hm
    generalize (names.take 28).map (fun c => D.exc c v) = MM at hm
    simp [nrmO, callM, argsS, argS, ownIx, apart, startD, hm, finC, backD]
  have a3 : sFor (iEn (eV 2)) (tgT 2 [(tgN 1 3), (tgN 1 4)]) bodyR [some (true, p'), some (false, v), some (true, .lst (madeL v)), none, none, none, none] = .ok .nx ρ1 := by
    refine sFor_ok (ds := enumD 0 (madeL v)) (ρ1 := [some (true, p'), some (false, v), some (false, .lst (madeL v)), none, none, none, none]) ?_ el
    show (eA [eV 2] _).bind _ = _
    rw [eA_cons (eV_ok rfl) eA_nil]
    rfl
  have a4 : sAsg 1 5 (eErr (eV 1) "HomeError") ρ1 = .ok .nx ρ2 := rfl
  have b1 : eB [(e1 (eV 5) valF)] reprF ρ2 = .ok (.val (.str s)) ρ2 := eB_ok (eA_cons (e1_ok (eV_ok rfl) rfl rfl) eA_nil) rfl hs
  have b2 : eB [(eV 1)] reprF ρ2 = .ok (.val (.str s)) ρ2 := eB_ok (eA_cons (eV_ok rfl) eA_nil) rfl hs
  have b3 : e2 (eB [(e1 (eV 5) valF)] reprF) (eB [(eV 1)] reprF) eqF ρ2 = .ok (.val (.bl true)) ρ2 := e2_ok b1 b2 rfl rfl (eq_str sh)
  have b4 : e1 (eV 5) (isiF (.ty "ValueError")) ρ2 = .ok (.val (.bl true)) ρ2 := e1_ok (eV_ok rfl) rfl (by simp [isiF, isiB, isTyB])
  have b5 : eCall 1 2 m_law_marks [(eV 5)] ρ2 = .ok (.own (.lst ((markB "HomeError").map .bl))) ρ2 := by
    refine eCall_ok (eA_cons (eV_ok rfl) eA_nil) ?_
    have hm := marks_run "HomeError" v
    generalize (markB "HomeError").map D.bl = MB at hm
    generalize ((markB "HomeError").take 30).map D.bl = MC at hm
    simp [nrmO, callM, argsS, argS, ownIx, apart, startD, ρ2, hm, finC, backD]
  have b6 : e1 (eB [(eCall 1 2 m_law_marks [(eV 5)])] anyF) notF ρ2 = .ok (.val (.bl true)) ρ2 := e1_ok (eB_ok (eA_cons b5 eA_nil) rfl home_ok) rfl rfl
  have b7 : sRet 1 (eAnd (e2 (eB [(e1 (eV 5) valF)] reprF) (eB [(eV 1)] reprF) eqF) (eAnd (e1 (eV 5) (isiF (.ty "ValueError"))) (e1 (eB [(eCall 1 2 m_law_marks [(eV 5)])] anyF) notF))) ρ2 = .ok (.rt (.val (.bl true))) ρ2 :=
    sRet_ok ((eAnd_t b3 rfl).trans ((eAnd_t b4 rfl).trans b6)) rfl
  exact (sSeq_nx a1).trans ((sSeq_nx a2).trans ((sSeq_nx a3).trans ((sSeq_nx a4).trans b7)))
end K00

set_option Elab.async false
set_option linter.all false
set_option maxRecDepth 100000
set_option maxHeartbeats 2000000
set_option exponentiation.threshold 10000
namespace K00
open PySem PySem.Spec L2 DL
open PyProof.Rows hiding St
def T60 : Int := 10 ^ 60
def BIG : Int := (10 ^ 60) ^ 5
def T18 : Int := 10 ^ 18
theorem pw1 : powF (.int 10) (.int 60) = some (.val (.int T60)) := by kernel_rfl
theorem pw2 : powF (.int T60) (.int 5) = some (.val (.int BIG)) := by kernel_rfl
theorem pw3 : powF (.int 10) (.int 18) = some (.val (.int T18)) := by kernel_rfl
theorem big_pos : 0 < BIG := by decide +kernel
theorem big_lt : BIG.natAbs < 2 ^ 1000 := by decide +kernel
theorem cell_run (ns : List Int) (k : Nat) (hk : k < 2 ^ 30) : ∃ cell : Int, sAsg 2 2 (eIf (tV (e2 (eV 1) (eB [(eV 0)] lenF) ltF)) (e2 (eV 0) (eV 1) ixF) (e2 (e2 (eC (.int 331)) (eV 1) mulF) (eC (.int 151)) addF)) [some (false, .scr ns), some (false, .int k), none, none, none] = .ok .nx [some (false, .scr ns), some (false, .int k), some (false, .int cell), none, none] := by
  let ρ : DEnv := [some (false, .scr ns), some (false, .int k), none, none, none]
  have t : tV (e2 (eV 1) (eB [(eV 0)] lenF) ltF) ρ = .ok (decide ((k : Int) < (ns.length : Int))) ρ := tV_ok (e2_ok (eV_ok rfl) (eB_ok (eA_cons (eV_ok rfl) eA_nil) rfl rfl) rfl rfl rfl) rfl
  by_cases h : k < ns.length
  · refine ⟨ns[k], sAsg_ok (o := .val (.int ns[k])) (ρ1 := ρ) ((eIf_ok t).trans ?_) rfl rfl⟩
    rw [decide_eq_true (by omega), if_pos rfl]
    refine e2_ok (eV_ok rfl) (eV_ok rfl) rfl rfl ?_
    have : atI ns (k : Int) = some ns[k] := by
      unfold atI ixN
      rw [if_pos (by omega), if_pos (by omega)]
      show ns[(k : Int).toNat]? = _
      rw [Int.toNat_natCast]; exact List.getElem?_eq_getElem h
    simp [ixF, this]
  · refine ⟨331 * k + 151, sAsg_ok (o := .val (.int (331 * k + 151))) (ρ1 := ρ) ((eIf_ok t).trans ?_) rfl rfl⟩
    rw [decide_eq_false (by omega), if_neg (by simp)]
    exact e2_ok (e2_ok (a := .val (.int 331)) rfl (eV_ok rfl) rfl rfl (mulF_ok 10 40 (by decide) (by omega))) (b := .val (.int 151)) rfl rfl rfl rfl
theorem own_run (s k : Slot) (cell : Int) : ∃ a : Int, sAsg 2 3 (e2 (e2 (eB [(eB [(eV 2)] absF)] intF) (e2 (e2 (eC (.int 10)) (eC (.int 60)) powF) (eC (.int 5)) powF) modF) (eB [(e2 (eB [(eV 2)] absF) (e2 (eC (.int 10)) (eC (.int 18)) powF) geF)] intF) mulF) [s, k, some (false, .int cell), none, none] = .ok .nx [s, k, some (false, .int cell), some (false, .int a), none] ∧ 0 ≤ a := by
  let ρ : DEnv := [s, k, some (false, .int cell), none, none]
  let ab : Int := if cell < 0 then -cell else cell
  have h1 : eB [(eV 2)] absF ρ = .ok (.val (.int ab)) ρ := eB_ok (eA_cons (eV_ok rfl) eA_nil) rfl rfl
  have h2 : eB [(eB [(eV 2)] absF)] intF ρ = .ok (.val (.int ab)) ρ := eB_ok (eA_cons h1 eA_nil) rfl rfl
  have h3 : e2 (e2 (eC (.int 10)) (eC (.int 60)) powF) (eC (.int 5)) powF ρ = .ok (.val (.int BIG)) ρ := e2_ok (e2_ok (a := .val (.int 10)) rfl (b := .val (.int 60)) rfl rfl rfl pw1) (b := .val (.int 5)) rfl rfl rfl pw2
  have h4 : modF (.int ab) (.int BIG) = some (.val (.int (ab % BIG))) := modF_ok big_pos
  have h5 := e2_ok h2 h3 rfl rfl h4
  have h6 : e2 (eB [(eV 2)] absF) (e2 (eC (.int 10)) (eC (.int 18)) powF) geF ρ = .ok (.val (.bl (decide (T18 ≤ ab)))) ρ := e2_ok h1 (e2_ok (a := .val (.int 10)) rfl (b := .val (.int 18)) rfl rfl rfl pw3) rfl rfl rfl
  have h7 : eB [(e2 (eB [(eV 2)] absF) (e2 (eC (.int 10)) (eC (.int 18)) powF) geF)] intF ρ = .ok (.val (.int (if decide (T18 ≤ ab) = true then 1 else 0))) ρ := eB_ok (eA_cons h6 eA_nil) rfl rfl
  have q0 : 0 ≤ ab % BIG := Int.emod_nonneg _ (by have := big_pos; omega)
  have q1 : ab % BIG < BIG := Int.emod_lt_of_pos _ big_pos
  have q2 := big_lt
  have n1 : (ab % BIG).natAbs < 2 ^ 1000 := by omega
  have n2 : (if decide (T18 ≤ ab) = true then (1 : Int) else 0).natAbs < 2 ^ 1 := by split <;> decide
  refine ⟨ab % BIG * (if decide (T18 ≤ ab) = true then 1 else 0), sAsg_ok (e2_ok h5 h7 rfl rfl (mulF_ok 1000 1 n1 n2)) rfl rfl, ?_⟩
  split
  · omega
  · omega
theorem pot_run (ns : List Int) (k : Nat) (hk : k < 2 ^ 30) : ∃ d rest, m_law_pot [some (false, .scr ns), some (false, .int k), none, none, none] = .ok (.rt (.own d)) rest ∧ Pot 0 d := by
  obtain ⟨cell, e1⟩ := cell_run ns k hk
  obtain ⟨a, e2', ha⟩ := own_run (some (false, .scr ns)) (some (false, .int k)) cell
  let sm : Int := cell % 2305843009213693951
  have s0 : 0 ≤ sm := Int.emod_nonneg _ (by decide)
  have s1 : sm < 2305843009213693951 := Int.emod_lt_of_pos _ (by decide)
  let ρ : DEnv := [some (false, .scr ns), some (false, .int k), some (false, .int cell), some (false, .int a), some (false, .int sm)]
  have e3 : sAsg 2 4 (e2 (eB [(eV 2)] intF) (eC (.int 2305843009213693951)) modF) [some (false, .scr ns), some (false, .int k), some (false, .int cell), some (false, .int a), none] = .ok .nx ρ :=
    sAsg_ok (o := .val (.int sm)) (ρ1 := [some (false, .scr ns), some (false, .int k), some (false, .int cell), some (false, .int a), none]) (e2_ok (eB_ok (eA_cons (eV_ok rfl) eA_nil) rfl rfl) (b := .val (.int 2305843009213693951)) rfl rfl rfl rfl) rfl rfl
  have kn : ((k : Nat) : Int).natAbs < 2 ^ 40 := by omega
  have f1 := mulF_ok (i := sm) (j := 72001) 70 20 (by omega) (by decide)
  have f2 := mulF_ok (i := 7331) (j := (k : Int)) 20 40 (by decide) kn
  have f3 := mulF_ok (i := 7331 * (k : Int)) (j := (k : Int)) (20 + 40) 40 (nab_mul (by decide) kn) kn
  let bb : Int := (sm * 72001 + 7331 * k * k + 167) % 2305843009213693921
  have b0 : 0 ≤ bb := Int.emod_nonneg _ (by decide)
  have b1 : bb < 2305843009213693921 := Int.emod_lt_of_pos _ (by decide)
  have e4 : e2 (eB [(e2 (e2 (e2 (eV 4) (eC (.int 72001)) mulF) (e2 (e2 (eC (.int 7331)) (eV 1) mulF) (eV 1) mulF) addF) (eC (.int 167)) addF)] intF) (eC (.int 2305843009213693921)) modF ρ = .ok (.val (.int bb)) ρ :=
    e2_ok (eB_ok (eA_cons (e2_ok (e2_ok (e2_ok (eV_ok rfl) (b := .val (.int 72001)) rfl rfl rfl f1) (e2_ok (e2_ok (a := .val (.int 7331)) rfl (eV_ok rfl) rfl rfl f2) (eV_ok rfl) rfl rfl f3) rfl rfl rfl) (b := .val (.int 167)) rfl rfl rfl rfl) eA_nil) rfl rfl) (b := .val (.int 2305843009213693921)) rfl rfl rfl rfl
  have e5 : sRet 2 (eLst [(eV 3), (e2 (eB [(e2 (e2 (e2 (eV 4) (eC (.int 72001)) mulF) (e2 (e2 (eC (.int 7331)) (eV 1) mulF) (eV 1) mulF) addF) (eC (.int 167)) addF)] intF) (eC (.int 2305843009213693921)) modF), (eC (.int 0))]) ρ = .ok (.rt (.own (.lst [.int a, .int bb, .int 0]))) ρ :=
    sRet_ok (eLst_ok (eA_cons (eV_ok rfl) (eA_cons e4 (eA_cons (o := .val (.int 0)) rfl eA_nil))) rfl (Nat.le_of_ble_eq_true rfl)) rfl
  refine ⟨.lst [.int a, .int bb, .int 0], ρ, (sSeq_nx e1).trans ((sSeq_nx e2').trans ((sSeq_nx e3).trans e5)), a, bb, 0, rfl, ha, b0, ?_, by omega, by omega⟩
  exact Nat.lt_of_lt_of_le (show bb.natAbs < 2 ^ 70 by omega) (Nat.pow_le_pow_right (by decide) (by decide))
theorem cells_run (ns : List Int) (hn : ns.length < 2 ^ 20) : ∃ n : Int, 1 ≤ n ∧ n ≤ 4 ∧ m_law_cells [some (false, .scr ns), some (false, .int 4)] = .ok (.rt (.own (.lst (rgD 0 n)))) [some (false, .scr ns), some (false, .int 4)] := by
  let ρ : DEnv := [some (false, .scr ns), some (false, .int 4)]
  let l : Int := ns.length
  let mn : Int := if l < 4 then l else 4
  let mx : Int := if mn > 1 then mn else 1
  have h1 : eB [(eV 1), (eB [(eV 0)] lenF)] minF ρ = .ok (.val (.int mn)) ρ := eB_ok (eA_cons (eV_ok rfl) (eA_cons (eB_ok (eA_cons (eV_ok rfl) eA_nil) rfl rfl) eA_nil)) rfl rfl
  have h2 : eB [(eC (.int 1)), (eB [(eV 1), (eB [(eV 0)] lenF)] minF)] maxF ρ = .ok (.val (.int mx)) ρ := eB_ok (eA_cons (o := .val (.int 1)) rfl (eA_cons h1 eA_nil)) rfl rfl
  have m1 : mn ≤ 4 := by show (if l < 4 then l else 4) ≤ 4; split <;> omega
  have m2 : 1 ≤ mx ∧ mx ≤ 4 := by show 1 ≤ (if mn > 1 then mn else 1) ∧ (if mn > 1 then mn else 1) ≤ 4; split <;> omega
  have h3 : eLRg (eB [(eC (.int 1)), (eB [(eV 1), (eB [(eV 0)] lenF)] minF)] maxF) ρ = .ok (.own (.lst (rgD 0 mx))) ρ := by
    have h62 : (2 : Int) ^ 62 = 4611686018427387904 := by rfl
    show (nrm _ ρ).bind _ = _
    rw [nrm_ok h2, R.bind_ok]
    show (if mx ≤ 16777216 ∧ -(2 ^ 62) ≤ mx then R.ok (Opd.own (.lst (rgD 0 mx))) ρ else R.bad) = _
    rw [if_pos ⟨by omega, by rw [h62]; omega⟩]
  exact ⟨mx, m2.1, m2.2, sRet_ok h3 rfl⟩
theorem turn_run (ns : List Int) (k : Nat) (hk : k < 2 ^ 30) (x2 : DL.Slot) : ∃ y2 : DL.Slot, (sSeq (sAsg 1 2 (eCall 2 5 m_law_pot [(eV 0), (eV 1)]))
  (sIf (tNot' (tV (eB [(eLc (iRng [(eC (.int 1))]) [3] (tgN 1 3) tYes' (eCall 1 7 m_law_right [(eV 2)]))] allF))) (sRet 1 (eC (.bl false))) sNil)) [some (false, .scr ns), some (false, .int k), x2, none] = .ok .nx [some (false, .scr ns), some (false, .int k), y2, none] := by
  obtain ⟨d, rest, e, hp⟩ := pot_run ns k hk
  obtain ⟨p', rest2, e2', hp'⟩ := right_run hp (by decide)
  refine ⟨some (true, p'), ?_⟩
  have a1 : sAsg 1 2 (eCall 2 5 m_law_pot [(eV 0), (eV 1)]) [some (false, .scr ns), some (false, .int k), x2, none] = .ok .nx [some (false, .scr ns), some (false, .int k), some (true, d), none] := by
    refine sAsg_ok (o := .own d) (ρ1 := [some (false, .scr ns), some (false, .int k), x2, none]) (eCall_ok (eA_cons (eV_ok rfl) (eA_cons (eV_ok rfl) eA_nil)) ?_) rfl rfl
    simp [nrmO, callM, argsS, argS, ownIx, apart, startD, e, finC, backD]
  have c1 : eCall 1 7 m_law_right [(eV 2)] [some (false, .scr ns), some (false, .int k), some (true, d), some (false, .int 0)] = .ok (.val (.bl true)) [some (false, .scr ns), some (false, .int k), some (true, p'), some (false, .int 0)] := by
    refine eCall_ok (eA_cons (eV_ok rfl) eA_nil) ?_
    simp [nrmO, callM, argsS, argS, ownIx, apart, startD, e2', finC, backD, List.replicate]
  have a2 : eLc (iRng [(eC (.int 1))]) [3] (tgN 1 3) tYes' (eCall 1 7 m_law_right [(eV 2)]) [some (false, .scr ns), some (false, .int k), some (true, d), none] = .ok (.own (.lst [.bl true])) [some (false, .scr ns), some (false, .int k), some (true, p'), none] := by
    refine eLc_ok (ds := [.int 0]) (ρ1 := [some (false, .scr ns), some (false, .int k), some (true, d), none]) ?_ ?_
    · exact iRng_ok (j := 1) (eA_cons (o := .val (.int 1)) rfl eA_nil) rfl (small62 (n := 1) (by decide)).1 (small62 (n := 1) (by decide)).2
    · unfold lcGo
      have t : tgN 1 3 (.int 0) (wipeD [some (false, .scr ns), some (false, .int k), some (true, d), none] [3]) = some [some (false, .scr ns), some (false, .int k), some (true, d), some (false, .int 0)] := rfl
      rw [t]
      show (match eCall 1 7 m_law_right [(eV 2)] [some (false, .scr ns), some (false, .int k), some (true, d), some (false, .int 0)] with
        | .ok o ρ3 => _
        | _ => _) = _
      rw [c1]
      rfl
  have a3 : tNot' (tV (eB [(eLc (iRng [(eC (.int 1))]) [3] (tgN 1 3) tYes' (eCall 1 7 m_law_right [(eV 2)]))] allF)) [some (false, .scr ns), some (false, .int k), some (true, d), none] = .ok false [some (false, .scr ns), some (false, .int k), some (true, p'), none] := tNot_ok (c := true) (tV_ok (eB_ok (eA_cons a2 eA_nil) rfl (o := .val (.bl true)) rfl) rfl)
  exact (sSeq_nx a1).trans ((sIf_ok a3).trans rfl)
theorem law_loop (ns : List Int) : ∀ (ks : List Nat) (x1 x2 : DL.Slot), (∀ k ∈ ks, k < 2 ^ 30) → ∃ y1 y2 : DL.Slot, loopF (tgN 1 1) (sSeq (sAsg 1 2 (eCall 2 5 m_law_pot [(eV 0), (eV 1)]))
  (sIf (tNot' (tV (eB [(eLc (iRng [(eC (.int 1))]) [3] (tgN 1 3) tYes' (eCall 1 7 m_law_right [(eV 2)]))] allF))) (sRet 1 (eC (.bl false))) sNil)) (ks.map fun k => D.int (0 + (k : Nat))) [some (false, .scr ns), x1, x2, none] = .ok .nx [some (false, .scr ns), y1, y2, none]
  | [], x1, x2, _ => ⟨x1, x2, rfl⟩
  | k :: ks, x1, x2, h => by
    obtain ⟨y2, e⟩ := turn_run ns k (h k List.mem_cons_self) x2
    obtain ⟨z1, z2, e'⟩ := law_loop ns ks (some (false, .int k)) y2 fun j hj => h j (List.mem_cons_of_mem _ hj)
    refine ⟨z1, z2, ?_⟩
    rw [List.map_cons]
    refine loop_cons (ρ1 := [some (false, .scr ns), some (false, .int k), x2, none]) ?_ e e'
    rw [Int.zero_add]; rfl
theorem law_run (ns : List Int) (hn : ns.length ≤ 63) : ∃ ρ, m_law (startD 4 [some (false, .scr ns)]) = .ok (.rt (.val (.bl true))) ρ := by
  obtain ⟨n, n1, n2, e⟩ := cells_run ns (by omega)
  obtain ⟨y1, y2, el⟩ := law_loop ns (List.range (n - 0).toNat) none none fun k hk => by have := List.mem_range.mp hk; omega
  refine ⟨[some (false, .scr ns), y1, y2, none], ?_⟩
  have h1 : iOf lstK (eCall 2 2 m_law_cells [(eV 0), (eC (.int 4))]) [some (false, .scr ns), none, none, none] = .ok (rgD 0 n) [some (false, .scr ns), none, none, none] := by
    have c : eCall 2 2 m_law_cells [(eV 0), (eC (.int 4))] [some (false, .scr ns), none, none, none] = .ok (.own (.lst (rgD 0 n))) [some (false, .scr ns), none, none, none] := by
      refine eCall_ok (eA_cons (eV_ok rfl) (eA_cons (o := .val (.int 4)) rfl eA_nil)) ?_
      simp [nrmO, callM, argsS, argS, ownIx, apart, startD, e, finC, backD]
    show (eCall 2 2 m_law_cells [(eV 0), (eC (.int 4))] _).bind (itO lstK) = _
    rw [c]; rfl
  exact (sSeq_nx (sFor_ok h1 el)).trans rfl
end K00

set_option maxHeartbeats 0
namespace K00
open PySem PySem.Spec PyProof.Rows L2
def dd (x : Str) (i : Nat) : He.DefD := ⟨(x, none), x, x, defArgs (top i), defBody (top i), defScope (top i), [], []⟩
def fn : List He.DefD := [dd "_law_pot" 34, dd "_law_take" 35, dd "_law_of" 36, dd "_law_cells" 37, dd "_law_odd" 38, dd "_law_made" 39, dd "_law_marks" 40, dd "_law_right" 41, dd "law" 42]
def loose_0 : List Str := ["_law_pot", "_law_take", "_law_of", "_law_cells", "_law_odd", "_law_made", "_law_marks", "_law_right"]
def loose : List Str := errs ++ loose_0
abbrev R : PySem.W.OpenRow := PySem.W.OpenLaw.row PySem.Challenge.rw_untoldhomes_k00_errors_and_what_they_kee
abbrev hk : PySem.W.Hook := DL.hookK prog 4 errs fr fn
def ob (s : PySem.W.SharedT) : DL.AlK := DL.obK prog 4 errs fr fn s
theorem ob_eq (s : PySem.W.SharedT) : ob s = hk.obs s.abs := DL.obK_eq s
theorem run (w : World) : HandSHeadRun.RunEq R (PySem.W.view R.prog [42]) hk ob 8000 loose w := by
  intro os
  kernel_rfl
theorem facts {w : World} {h : Heap} {mg : Str → Option Value} {fa : Addr} (Y : hk.says w h) (G : h.Ns mainGlobals mg) (hfa : mg ("law" : Str) = some (.ref fa)) :
    ∃ (K : PySem.W.Frag) (fd : FuncData) (sp : Sp), K.In h ∧ (∀ (s : Shared) (u : Value), BindsTo s fd ⟨[u], []⟩ [("_law_script", u)]) ∧
      (∀ (H : Hp) (a : Addr) (ns : List Int), ns.length ≤ 63 → SqL K H a (ns.map V.int) → sp [.ref a] H (fun v _ => v = .bl true) fun _ _ _ => False) ∧
      ∀ base : Heap, K.In base → DL.FnD prog w K mg base 6 fa fd ["_law_script"] sp := by
  obtain ⟨K, X, c⟩ := Y
  obtain ⟨⟨so, sm⟩, eb⟩ := c.err X G (by decide +kernel)
  obtain ⟨g0, fd0, F0⟩ := c.def_ X G 0 (d := dd "_law_pot" 34) rfl
  obtain ⟨g1, fd1, F1⟩ := c.def_ X G 1 (d := dd "_law_take" 35) rfl
  obtain ⟨g2, fd2, F2⟩ := c.def_ X G 2 (d := dd "_law_of" 36) rfl
  obtain ⟨g3, fd3, F3⟩ := c.def_ X G 3 (d := dd "_law_cells" 37) rfl
  obtain ⟨g4, fd4, F4⟩ := c.def_ X G 4 (d := dd "_law_odd" 38) rfl
  obtain ⟨g5, fd5, F5⟩ := c.def_ X G 5 (d := dd "_law_made" 39) rfl
  obtain ⟨g6, fd6, F6⟩ := c.def_ X G 6 (d := dd "_law_marks" 40) rfl
  obtain ⟨g7, fd7, F7⟩ := c.def_ X G 7 (d := dd "_law_right" 41) rfl
  obtain ⟨g8, fd8, F8⟩ := c.def_ X G 8 (d := dd "law" 42) rfl
  have e := hfa.symm.trans g8
  cases e
  refine ⟨K, fd8, DL.spM ⟨K, mg, errs⟩ 1 4 m_law, X, fun s v => F8.bindsA (ps := ["_law_script"]) (fun _ _ _ _ _ _ us hl => match us, hl with | [_], _ => rfl) s [v] rfl, fun H a ns hl hS => DL.sp_law rfl law_run H a ns hl hS, fun base hb => ?_⟩
  have T : DL.Tp prog K mg base errs fr := ⟨⟨eb⟩, ⟨so, hb _ _ sm⟩, fun x hx => c.free X G hx⟩
  have c0 := (ok_law_pot (w := w) T F0 g0 ).2
  have c1 := (ok_law_take (w := w) T F1 g1 ).2
  have c2 := (ok_law_of (w := w) T F2 g2 (c1.mono (by decide))).2
  have c3 := (ok_law_cells (w := w) T F3 g3 ).2
  have c4 := (ok_law_odd (w := w) T F4 g4 (c2.mono (by decide))).2
  have c5 := (ok_law_made (w := w) T F5 g5 ).2
  have c6 := (ok_law_marks (w := w) T F6 g6 ).2
  have c7 := (ok_law_right (w := w) T F7 g7 (c5.mono (by decide)) (c6.mono (by decide)) (c4.mono (by decide)) (c2.mono (by decide))).2
  exact (ok_law T F8 g8 (c3.mono (by decide)) (c0.mono (by decide)) (c7.mono (by decide))).1
end K00
open PySem PySem.W PySem.Calls PyProof.Rows
theorem PySem.Challenge.cw_untoldhomes_k00_errors_and_what_they_kee_holds : PySem.Challenge.rw_untoldhomes_k00_errors_and_what_they_kee.Holds := by
  w_on; o_law
  refine HandSHeadRun.head_any (r := K00.R) (q := view K00.R.prog [42]) (H := K00.hk) (ob := K00.ob) (M := 8000) (loose := K00.loose) (d := HandSHeadRun.topDef K00.R.prog 42) (kwd := []) K00.ob_eq
    (by kernel_rfl) (fun s => by kernel_rfl) K00.run (by kernel_rfl) (by kernel_rfl) (by kernel_rfl) (by rfl) (by first | assumption | decide +kernel) (by decide +kernel) ⟨rfl, rfl, rfl, rfl, rfl, by decide +kernel⟩ ?hw ?hc
  case hw => w_witness2
  case hc =>
    refine DL.walk_D (l := PySem.Challenge.rw_untoldhomes_k00_errors_and_what_they_kee) (n := 63) (k := 6) (x := "_law_script") rfl (by decide) (by kernel_rfl) ⟨rfl, by decide, by decide⟩ ?F
    intro w mg fa h Y G hmg0
    have hmg : mg ("law" : PySem.Str) = some (.ref fa) := by
      have e : (HandSHeadRun.topDef K00.R.prog 42).name = ("law" : PySem.Str) := by kernel_rfl
      rw [← e]
      exact hmg0
    exact K00.facts Y G hmg

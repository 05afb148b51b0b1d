import PyProof.Rows.All
import Wide.All
import OpenK.AllK
import Wide.FinOn
import KE.KStateDown
import Lean
import PySem.Challenge.RW_untoldhomes_k02_texts_of_no_town
import HandS.ForMost
import HandS.Exc
import HandS.Slots
import HandS.Lambda
import HandS.Wide
import HandS.RaiseMore
import HandS.Conv
import HandS.ExcField
import KE.KExcSuper
import KE.KExcIs
import HandS.ExcValue
import HandS.IsInst
import HandS.Small
import HandS.Dict
import HandS.Call
import HandS.Ends
import HandS.Defaults
import HandS.HeadEnd
import HandS.Deep
import HandS.TupAny
import HandS.Text
import HandS.List
import HandS.Zip
import HandS.Iter
import KE.GoesEnum
import HandS.Style
import HandS.Star
import OpenK.KMeth
import HandS.SlotsOwn
import OpenK.KOps
import HandS.TryOnly
import HandS.Codes
import HandS.More
import HandS.HeadHook1
import HandS.HeadHook2
import HandS.Head0
import HandS.Head1
import HandS.Head2
import HandS.HeadHook4
import KE.IntTextLaws
set_option Elab.async false
set_option linter.all false
set_option maxRecDepth 100000
/-! The data layer: values as trees, slots that are owned or frozen, results, and what each judgement of the hand layer says of them. -/
namespace DL
open PySem PySem.Spec L2
open PyProof.Rows hiding St

inductive D where
  | non | bl (b : Bool) | int (i : Int) | str (s : Str)
  | lst (xs : List D) | tup (xs : List D)
  | dK (kvs : List (Key × D))
  | exc (c : Str) (v : D)
  | scr (xs : List Int)
  | obj (c : Str) (fs : List D)

structure Cb where
  K : PySem.W.Frag
  mg : Str → Option Value
  errs : List Str
  /-- the tables of code objects, each with the one name that its code objects bear -/
  T : List (Addr × Str)
/-- .. and of a def: how many parameters it has -/
structure Cn where
  b : Cb
  np : Nat

/-- an exception object of the class at T, its own dict at dx -/
def ExH (T dx a : Addr) : HO := .ext fun h => ∃ (oe : Obj) (vs : Array Value), h.get? a = some oe ∧ oe.cls = .ref T ∧ oe.dict = some dx ∧ oe.data = .fields vs

mutual
def den (C : Cb) (G : Hp) : D → V → Prop
  | .non, v => v = .non
  | .bl b, v => v = .bl b
  | .int i, v => v = .int i
  | .str s, v => v = .str s
  | .lst xs, v => ∃ a vs, v = .ref a ∧ G a = some (.lst vs) ∧ denL C G xs vs
  | .tup xs, v => ∃ a vs, v = .ref a ∧ SqT C.K G a vs ∧ denL C G xs vs
  | .dK kvs, v => ∃ a ws, v = .ref a ∧ G a = some (.dK ws) ∧ denK C G kvs ws
  | .exc c d, v => ∃ a dx T u, v = .ref a ∧ (c ∈ C.errs ∧ C.mg c = some (.ref T)) ∧ G a = some (ExH T dx a) ∧ G dx = some (.xd [(("value" : Str), u)]) ∧ den C G d u
  | .scr xs, v => ∃ a, v = .ref a ∧ SqL C.K G a (xs.map V.int)
  | .obj c fs, v => ∃ a dx T vs, v = .ref a ∧ C.mg c = some (.ref T) ∧ dx ≠ a ∧ G a = some (SlX.SlO a T dx (vs.map some)) ∧ G dx = some (.xd []) ∧ denL C G fs vs
def denL (C : Cb) (G : Hp) : List D → List V → Prop
  | [], vs => vs = []
  | d :: ds, vs => ∃ v r, vs = v :: r ∧ den C G d v ∧ denL C G ds r
def denK (C : Cb) (G : Hp) : List (Key × D) → List (Key × V) → Prop
  | [], ws => ws = []
  | (k, d) :: r, ws => ∃ v s, ws = (k, v) :: s ∧ den C G d v ∧ denK C G r s
end

def Sub (G G' : Hp) : Prop := ∀ a o, G a = some o → G' a = some o
theorem Sub.rfl {G : Hp} : Sub G G := fun _ _ e => e
theorem Sub.trans {G G' G'' : Hp} (h : Sub G G') (h' : Sub G' G'') : Sub G G'' := fun a o e => h' a o (h a o e)
theorem Sub.new {G : Hp} {p : Addr} {o : HO} (h : G p = none) : Sub G (upd G p o) := fun a u e => by
  have : a ≠ p := fun z => by rw [z, h] at e; cases e
  rw [upd_ne this]; exact e
theorem Sub.rd {G G' : Hp} (h : Sub G G') {a : Addr} {u : HO} (r : Rd G a u) : Rd G' a u := by
  rcases r with r | ⟨o, r⟩
  · exact .inl (h _ _ r)
  · exact .inr ⟨o, h _ _ r⟩
theorem Sub.sqT {G G' : Hp} (h : Sub G G') {K : PySem.W.Frag} {a : Addr} {xs : List V} (r : SqT K G a xs) : SqT K G' a xs := by
  rcases r with r | r
  · exact .inl (h.rd r)
  · exact .inr r
theorem Sub.sqL {G G' : Hp} (h : Sub G G') {K : PySem.W.Frag} {a : Addr} {xs : List V} (r : SqL K G a xs) : SqL K G' a xs := by
  rcases r with r | r
  · exact .inl (h.rd r)
  · exact .inr r

section
variable {C : Cb} {G G' : Hp}
mutual
theorem den.mono (h : Sub G G') : ∀ (d : D) (v : V), den C G d v → den C G' d v
  | .non, v, e => e
  | .bl b, v, e => e
  | .int i, v, e => e
  | .str s, v, e => e
  | .lst xs, v, e => by
    unfold den at e ⊢
    obtain ⟨a, vs, e1, e2, e3⟩ := e
    exact ⟨a, vs, e1, h _ _ e2, denL.mono h xs vs e3⟩
  | .tup xs, v, e => by
    unfold den at e ⊢
    obtain ⟨a, vs, e1, e2, e3⟩ := e
    exact ⟨a, vs, e1, h.sqT e2, denL.mono h xs vs e3⟩
  | .dK kvs, v, e => by
    unfold den at e ⊢
    obtain ⟨a, ws, e1, e2, e3⟩ := e
    exact ⟨a, ws, e1, h _ _ e2, denK.mono h kvs ws e3⟩
  | .exc c d, v, e => by
    unfold den at e ⊢
    obtain ⟨a, dx, T, u, e1, e2, e3, e4, e5⟩ := e
    exact ⟨a, dx, T, u, e1, e2, h _ _ e3, h _ _ e4, den.mono h d u e5⟩
  | .scr xs, v, e => by
    unfold den at e ⊢
    obtain ⟨a, e1, e2⟩ := e
    exact ⟨a, e1, h.sqL e2⟩
  | .obj c fs, v, e => by
    unfold den at e ⊢
    obtain ⟨a, dx, T, vs, e1, e2, e3, e4, e5, e6⟩ := e
    exact ⟨a, dx, T, vs, e1, e2, e3, h _ _ e4, h _ _ e5, denL.mono h fs vs e6⟩
theorem denL.mono (h : Sub G G') : ∀ (ds : List D) (vs : List V), denL C G ds vs → denL C G' ds vs
  | [], vs, e => e
  | d :: ds, vs, e => by
    unfold denL at e ⊢
    obtain ⟨v, r, e1, e2, e3⟩ := e
    exact ⟨v, r, e1, den.mono h d v e2, denL.mono h ds r e3⟩
theorem denK.mono (h : Sub G G') : ∀ (ds : List (Key × D)) (vs : List (Key × V)), denK C G ds vs → denK C G' ds vs
  | [], vs, e => e
  | (k, d) :: ds, vs, e => by
    unfold denK at e ⊢
    obtain ⟨v, r, e1, e2, e3⟩ := e
    exact ⟨v, r, e1, den.mono h d v e2, denK.mono h ds r e3⟩
end
end

/-! ### slots, results -/
abbrev Slot := Option (Bool × D)
abbrev DEnv := List Slot
inductive R (α : Type) where
  | ok (a : α) (ρ : DEnv)
  | exc (c : Str) (d : D) (ρ : DEnv)
  | bad
abbrev M (α : Type) := DEnv → R α
def R.bind {α β : Type} (r : R α) (k : α → DEnv → R β) : R β := match r with
  | .ok a ρ => k a ρ
  | .exc c d ρ => .exc c d ρ
  | .bad => .bad
@[simp] theorem R.bind_ok {α β : Type} (a : α) (ρ : DEnv) (k : α → DEnv → R β) : (R.ok a ρ).bind k = k a ρ := rfl
@[simp] theorem R.bind_exc {α β : Type} (c : Str) (d : D) (ρ : DEnv) (k : α → DEnv → R β) : (R.exc c d ρ : R α).bind k = .exc c d ρ := rfl
@[simp] theorem R.bind_bad {α β : Type} (k : α → DEnv → R β) : (R.bad : R α).bind k = .bad := rfl
inductive Opd where
  | val (d : D) | own (d : D) | slot (i : Nat)
inductive Fl where
  | nx | bk | ct | rt (o : Opd)

/-- what an owned address holds -/
def ownAt (C : Cb) (G H : Hp) (p : Addr) : D → Prop
  | .lst xs => ∃ vs, H p = some (.lst vs) ∧ denL C G xs vs
  | .dK kvs => ∃ ws, H p = some (.dK ws) ∧ denK C G kvs ws
  | _ => False

/-- what can be owned at all -/
def isCont : D → Bool
  | .lst _ => true
  | .dK _ => true
  | _ => false
/-- a frame's ground: the heap and the frozen part at its entry, what it borrowed -/
structure Gr where
  H0 : Hp
  G0 : Hp
  B : List (Nat × Addr)
  T : List (Addr × Str)
/-- no table, no code object -/
def Quiet (o : HO) : Prop := (∀ ps, o ≠ .tbl ps) ∧ ∀ c q, o ≠ LamX.CodeO c q
theorem quiet_lst {xs : List V} : Quiet (.lst xs) := ⟨fun _ z => (nomatch z), fun _ _ z => by unfold LamX.CodeO at z; cases z⟩
theorem quiet_dK {xs : List (Key × V)} : Quiet (.dK xs) := ⟨fun _ z => (nomatch z), fun _ _ z => by unfold LamX.CodeO at z; cases z⟩
theorem quiet_xd {xs : List (Str × V)} : Quiet (.xd xs) := ⟨fun _ z => (nomatch z), fun _ _ z => by unfold LamX.CodeO at z; cases z⟩
theorem quiet_own {a : Addr} : Quiet (.own a) := ⟨fun _ z => (nomatch z), fun _ _ z => by unfold LamX.CodeO at z; cases z⟩
theorem quiet_ins {a b : Addr} {xs} : Quiet (.ins a b xs) := ⟨fun _ z => (nomatch z), fun _ _ z => by unfold LamX.CodeO at z; cases z⟩
theorem tabs_none {T : List (Addr × Str)} {H : Hp} {p : Addr} (t : LamX.Tabs T H) (h : H p = none) : p ∉ T.map (·.1) := fun z => by
  obtain ⟨x, hx, e⟩ := List.mem_map.mp z
  obtain ⟨ps, h1, _⟩ := t x hx
  rw [e, h] at h1; cases h1
theorem tabs_no {T : List (Addr × Str)} {H : Hp} {p : Addr} {o : HO} (t : LamX.Tabs T H) (h : H p = some o) (n : Quiet o) : p ∉ T.map (·.1) := fun z => by
  obtain ⟨x, hx, e⟩ := List.mem_map.mp z
  obtain ⟨ps, h1, _⟩ := t x hx
  rw [e, h] at h1; cases h1
  exact n.1 _ rfl
theorem tabs_new {T : List (Addr × Str)} {H : Hp} {p : Addr} {o : HO} (t : LamX.Tabs T H) (h : H p = none) : LamX.Tabs T (upd H p o) := t.ext fun b u e => by
  have : b ≠ p := fun z => by rw [z, h] at e; cases e
  rw [upd_ne this]; exact e
theorem tabs_upd {T : List (Addr × Str)} {H : Hp} {p : Addr} {o o' : HO} (t : LamX.Tabs T H) (h : H p = some o) (n : Quiet o) : LamX.Tabs T (upd H p o') := fun x hx => by
  obtain ⟨ps, h1, h2, h3⟩ := t x hx
  have ne : x.1 ≠ p := fun z => by rw [z, h] at h1; cases h1; exact n.1 _ rfl
  refine ⟨ps, by rw [upd_ne ne]; exact h1, h2, fun pos cv hc => ?_⟩
  obtain ⟨c, e1, e2⟩ := h3 pos cv hc
  have nc : c ≠ p := fun z => by rw [z, h] at e2; cases e2; exact n.2 _ _ rfl
  exact ⟨c, e1, by rw [upd_ne nc]; exact e2⟩
theorem gt_upd {T : List (Addr × Str)} {G : Hp} {p : Addr} {o : HO} (g : ∀ a ∈ T.map (·.1), G a = none) (h : p ∉ T.map (·.1)) : ∀ a ∈ T.map (·.1), upd G p o a = none := fun a ha => by
  have ne : a ≠ p := fun z => h (z ▸ ha)
  rw [upd_ne ne]; exact g a ha

structure ED (C : Cn) (Y : Gr) (G : Hp) (σ : St) (H : Hp) (ρ : DEnv) : Prop where
  sub : Sub G H
  frz : ∀ (i : Nat) (d : D), ρ[i]? = some (some (false, d)) → ∃ v, σ[i]? = some (some v) ∧ den C.b G d v
  own : ∀ (i : Nat) (d : D), ρ[i]? = some (some (true, d)) → ∃ p, σ[i]? = some (some (.ref p)) ∧ G p = none ∧ ownAt C.b G H p d ∧ (Y.H0 p = none ∨ (i, p) ∈ Y.B)
  ap : ∀ (i j : Nat) (d e : D) (p : Addr), i ≠ j → ρ[i]? = some (some (true, d)) → ρ[j]? = some (some (true, e)) → σ[i]? = some (some (.ref p)) → σ[j]? = some (some (.ref p)) → False
  len : ρ.length = σ.length
  bor : ∀ (i : Nat) (p : Addr), (i, p) ∈ Y.B → σ[i]? = some (some (.ref p)) ∧ i < C.np ∧ ∃ b d, ρ[i]? = some (some (b, d)) ∧ isCont d = true ∧ (b = true ∨ ∃ o, G p = some o)
  old : ∀ a o, Y.H0 a = some o → (∀ i, (i, a) ∉ Y.B) → a ∉ Y.T.map (·.1) → H a = some o
  fz : ∀ a o, G a = some o → Y.H0 a = none ∨ Y.G0 a = some o ∨ ∃ i, (i, a) ∈ Y.B
  g0 : Sub Y.G0 G
  tb : Y.T = C.b.T ∧ LamX.Tabs Y.T H
  gt : ∀ a ∈ Y.T.map (·.1), G a = none

/-- a result's value -/
def OD (C : Cn) (Y : Gr) (G : Hp) (σ : St) (H : Hp) (ρ : DEnv) : Opd → V → Prop
  | .val d, v => den C.b G d v
  | .own d, v => ∃ p, v = .ref p ∧ G p = none ∧ ownAt C.b G H p d ∧ Y.H0 p = none ∧ ∀ (i : Nat) (e : D), ρ[i]? = some (some (true, e)) → σ[i]? ≠ some (some (.ref p))
  | .slot i, v => σ[i]? = some (some v)

/-- an exception's own dict holds its value -/
def XD (C : Cb) (Y : Gr) (G H : Hp) (dx : Addr) (d : D) : Prop := ∃ u, H dx = some (.xd [(("value" : Str), u)]) ∧ den C G d u ∧ G dx = none ∧ Y.H0 dx = none

/-- what must hold of a result -/
def Post (C : Cn) (W : WX) (Q : VK) (Y : Gr) (G : Hp) (σ : St) : R Opd → Prop
  | .ok o ρ => ∀ G' H v, Sub G G' → ED C Y G' σ H ρ → OD C Y G' σ H ρ o v → Q v H
  | .exc c d ρ => ∀ T dx G' H, C.b.mg c = some (.ref T) → Sub G G' → ED C Y G' σ H ρ → XD C.b Y G' H dx d → W (.ref T) (some dx) σ H
  | .bad => False
def PostT (C : Cn) (W : WX) (Q : Bool → Hp → Prop) (Y : Gr) (G : Hp) (σ : St) : R Bool → Prop
  | .ok b ρ => ∀ G' H, Sub G G' → ED C Y G' σ H ρ → Q b H
  | .exc c d ρ => ∀ T dx G' H, C.b.mg c = some (.ref T) → Sub G G' → ED C Y G' σ H ρ → XD C.b Y G' H dx d → W (.ref T) (some dx) σ H
  | .bad => False
def allOD (C : Cn) (Y : Gr) (G : Hp) (σ : St) (H : Hp) (ρ : DEnv) : List Opd → List V → Prop
  | [], vs => vs = []
  | o :: os, vs => ∃ v r, vs = v :: r ∧ OD C Y G σ H ρ o v ∧ allOD C Y G σ H ρ os r
def PostA (C : Cn) (W : WX) (Q : List V → Hp → Prop) (Y : Gr) (G : Hp) (σ : St) : R (List Opd) → Prop
  | .ok os ρ => ∀ G' H vs, Sub G G' → ED C Y G' σ H ρ → allOD C Y G' σ H ρ os vs → Q vs H
  | .exc c d ρ => ∀ T dx G' H, C.b.mg c = some (.ref T) → Sub G G' → ED C Y G' σ H ρ → XD C.b Y G' H dx d → W (.ref T) (some dx) σ H
  | .bad => False
def PostS (C : Cn) (W : WX) (N : Ends) (Y : Gr) (G : Hp) : R Fl → Prop
  | .ok .nx ρ => ∀ G' σ H, Sub G G' → ED C Y G' σ H ρ → N.nx σ H
  | .ok .bk ρ => ∀ G' σ H, Sub G G' → ED C Y G' σ H ρ → N.bk σ H
  | .ok .ct ρ => ∀ G' σ H, Sub G G' → ED C Y G' σ H ρ → N.ct σ H
  | .ok (.rt o) ρ => ∀ G' σ H v, Sub G G' → ED C Y G' σ H ρ → OD C Y G' σ H ρ o v → N.rt v H
  | .exc c d ρ => ∀ T dx G' σ H, C.b.mg c = some (.ref T) → Sub G G' → ED C Y G' σ H ρ → XD C.b Y G' H dx d → W (.ref T) (some dx) σ H
  | .bad => False

def tE (C : Cn) (W : WX) (f : M Opd) : TE := fun σ H Q => ∃ Y G ρ, ED C Y G σ H ρ ∧ Post C W Q Y G σ (f ρ)
def tT (C : Cn) (W : WX) (f : M Bool) : TT := fun σ H Q => ∃ Y G ρ, ED C Y G σ H ρ ∧ PostT C W Q Y G σ (f ρ)
def tA (C : Cn) (W : WX) (f : M (List Opd)) : TA := fun σ H Q => ∃ Y G ρ, ED C Y G σ H ρ ∧ PostA C W Q Y G σ (f ρ)
def tS (C : Cn) (W : WX) (f : M Fl) : TS := fun N σ H => ∃ Y G ρ, ED C Y G σ H ρ ∧ PostS C W N Y G (f ρ)

section
variable {C : Cn} {W : WX} {Y : Gr} {G G' : Hp} {σ : St}
theorem Post.mono {Q : VK} (h : Sub G G') : ∀ {r : R Opd}, Post C W Q Y G σ r → Post C W Q Y G' σ r
  | .ok o ρ, p => fun G2 H v s => p G2 H v (h.trans s)
  | .exc c d ρ, p => fun T dx G2 H hc s => p T dx G2 H hc (h.trans s)
  | .bad, p => p
theorem PostT.mono {Q : Bool → Hp → Prop} (h : Sub G G') : ∀ {r : R Bool}, PostT C W Q Y G σ r → PostT C W Q Y G' σ r
  | .ok o ρ, p => fun G2 H s => p G2 H (h.trans s)
  | .exc c d ρ, p => fun T dx G2 H hc s => p T dx G2 H hc (h.trans s)
  | .bad, p => p
theorem PostA.mono {Q : List V → Hp → Prop} (h : Sub G G') : ∀ {r : R (List Opd)}, PostA C W Q Y G σ r → PostA C W Q Y G' σ r
  | .ok o ρ, p => fun G2 H v s => p G2 H v (h.trans s)
  | .exc c d ρ, p => fun T dx G2 H hc s => p T dx G2 H hc (h.trans s)
  | .bad, p => p
theorem PostS.mono {N : Ends} (h : Sub G G') : ∀ {r : R Fl}, PostS C W N Y G r → PostS C W N Y G' r
  | .ok .nx ρ, p => fun G2 σ H s => p G2 σ H (h.trans s)
  | .ok .bk ρ, p => fun G2 σ H s => p G2 σ H (h.trans s)
  | .ok .ct ρ, p => fun G2 σ H s => p G2 σ H (h.trans s)
  | .ok (.rt o) ρ, p => fun G2 σ H v s => p G2 σ H v (h.trans s)
  | .exc c d ρ, p => fun T dx G2 σ H hc s => p T dx G2 σ H hc (h.trans s)
  | .bad, p => p
end

/-! ### a judgement's reading may be strengthened -/
theorem PE.st {X : Cx} {e : Expr} {t t' : TE} (h : PE X e t) (i : ∀ σ H Q, t' σ H Q → t σ H Q) : PE X e t' := ⟨fun pins s σ H Q I q => h.run pins s σ H Q I (i σ H Q q)⟩
theorem PT.st {X : Cx} {e : Expr} {t t' : TT} (h : PT X e t) (i : ∀ σ H Q, t' σ H Q → t σ H Q) : PT X e t' := ⟨fun pins s σ H Q I q => h.run pins s σ H Q I (i σ H Q q)⟩
theorem PA.st {X : Cx} {e : List Expr} {t t' : TA} (h : PA X e t) (i : ∀ σ H Q, t' σ H Q → t σ H Q) : PA X e t' := ⟨fun pos pins s σ H Q I q => h.run pos pins s σ H Q I (i σ H Q q)⟩
theorem PS.st {X : Cx} {e : Stmt} {t t' : TS} (h : PS X e t) (i : ∀ N σ H, t' N σ H → t N σ H) : PS X e t' := ⟨fun pins s σ H Q I q => h.run pins s σ H Q I (i Q σ H q)⟩
theorem PSs.st {X : Cx} {e : List Stmt} {t t' : TS} (h : PSs X e t) (i : ∀ N σ H, t' N σ H → t N σ H) : PSs X e t' := ⟨fun pins s σ H Q I q => h.run pins s σ H Q I (i Q σ H q)⟩

/-! ### how the state may change -/
theorem ownAt.some' {C : Cb} {G H : Hp} {p : Addr} : ∀ {d : D}, ownAt C G H p d → ∃ o, H p = some o
  | .lst xs, ⟨vs, a, b⟩ => ⟨_, a⟩
  | .dK xs, ⟨vs, a, b⟩ => ⟨_, a⟩
theorem ownAt.quiet {C : Cb} {G H : Hp} {p : Addr} : ∀ {d : D}, ownAt C G H p d → ∃ o, H p = some o ∧ Quiet o
  | .lst xs, ⟨vs, a, b⟩ => ⟨_, a, quiet_lst⟩
  | .dK xs, ⟨vs, a, b⟩ => ⟨_, a, quiet_dK⟩
theorem ownAt.cont {C : Cb} {G H : Hp} {p : Addr} : ∀ {d : D}, ownAt C G H p d → isCont d = true
  | .lst xs, _ => rfl
  | .dK xs, _ => rfl
section
variable {C : Cn} {Y : Gr} {G : Hp} {σ : St} {H : Hp} {ρ : DEnv}
theorem ED.h0 (E : ED C Y G σ H ρ) {p : Addr} (h : H p = none) : Y.H0 p = none := by
  cases e : Y.H0 p with
  | none => rfl
  | some o =>
    by_cases hb : ∃ i, (i, p) ∈ Y.B
    · obtain ⟨i, hb⟩ := hb
      obtain ⟨h1, hn, b, d, h2, hc, h3⟩ := E.bor i p hb
      rcases h3 with rfl | ⟨u, h3⟩
      · obtain ⟨q, q1, q2, q3, q4⟩ := E.own i d h2
        rw [h1] at q1
        cases q1
        obtain ⟨u, hu⟩ := ownAt.some' q3
        rw [h] at hu; cases hu
      · have := E.sub _ _ h3
        rw [h] at this; cases this
    · have := E.old p o e (fun i z => hb ⟨i, z⟩) (tabs_none E.tb.2 h)
      rw [h] at this; cases this
theorem XD.back (E : ED C Y G σ H ρ) {b : Cb} {Y' : Gr} {G' H' : Hp} {dx : Addr} {d : D} (x : XD b Y' G' H' dx d) (h : Y'.H0 = H := by rfl) : XD b Y G' H' dx d := by
  obtain ⟨u, h1, h2, h3, h4⟩ := x
  exact ⟨u, h1, h2, h3, E.h0 (by rw [← h]; exact h4)⟩
theorem ED.gn (E : ED C Y G σ H ρ) {p : Addr} (h : H p = none) : G p = none := by
  cases e : G p with
  | none => rfl
  | some o => have := E.sub _ _ e; rw [h] at this; cases this
theorem ownAt.mono {G' H' : Hp} {p : Addr} (s : Sub G G') (k : H' p = H p) : ∀ {d : D}, ownAt C.b G H p d → ownAt C.b G' H' p d
  | .lst xs, ⟨vs, a, b⟩ => ⟨vs, k.trans a, denL.mono s _ _ b⟩
  | .dK xs, ⟨vs, a, b⟩ => ⟨vs, k.trans a, denK.mono s _ _ b⟩
theorem ownAt.some {p : Addr} : ∀ {d : D}, ownAt C.b G H p d → ∃ o, H p = some o
  | .lst xs, ⟨vs, a, b⟩ => ⟨_, a⟩
  | .dK xs, ⟨vs, a, b⟩ => ⟨_, a⟩
/-- a new cell, not owned, not frozen -/
theorem ED.laid (E : ED C Y G σ H ρ) {p : Addr} {o : HO} (h : H p = none) : ED C Y G σ (upd H p o) ρ := by
  have ne : ∀ {a u}, H a = some u → a ≠ p := fun {a u} e z => by rw [z, h] at e; cases e
  refine ⟨fun a u e => ?_, E.frz, fun i d e => ?_, E.ap, E.len, E.bor, fun a u e hb ht => ?_, E.fz, E.g0, ⟨E.tb.1, tabs_new E.tb.2 h⟩, E.gt⟩
  · have := E.sub a u e
    rw [upd_ne (ne this)]; exact this
  · obtain ⟨q, q1, q2, q3, q4⟩ := E.own i d e
    obtain ⟨u, hu⟩ := q3.some
    exact ⟨q, q1, q2, q3.mono Sub.rfl (upd_ne (ne hu)), q4⟩
  · have := E.old a u e hb ht
    rw [upd_ne (ne this)]; exact this
/-- a new cell, frozen at once -/
theorem ED.froze (E : ED C Y G σ H ρ) {p : Addr} {o : HO} (h : H p = none) : ED C Y (upd G p o) σ (upd H p o) ρ := by
  have ne : ∀ {a u}, H a = some u → a ≠ p := fun {a u} e z => by rw [z, h] at e; cases e
  have gn := E.gn h
  have L := E.laid (o := o) h
  have sg : Sub G (upd G p o) := Sub.new gn
  refine ⟨fun a u e => ?_, fun i d e => ?_, fun i d e => ?_, E.ap, E.len, fun i q hb => ?_, L.old, fun a u e => ?_, E.g0.trans sg, L.tb, gt_upd E.gt (tabs_none E.tb.2 h)⟩
  · by_cases hp : a = p
    · subst hp; rw [upd_same] at e ⊢; exact e
    · rw [upd_ne hp] at e; exact L.sub a u e
  · obtain ⟨v, v1, v2⟩ := E.frz i d e
    exact ⟨v, v1, den.mono sg _ _ v2⟩
  · obtain ⟨q, q1, q2, q3, q4⟩ := L.own i d e
    obtain ⟨_, _, _, q3', _⟩ := E.own i d e
    have hq : q ≠ p := by
      obtain ⟨q', q1', q2', q3', q4'⟩ := E.own i d e
      rw [q1] at q1'; cases q1'
      obtain ⟨u, hu⟩ := q3'.some
      exact ne hu
    exact ⟨q, q1, by rw [upd_ne hq]; exact q2, q3.mono sg rfl, q4⟩
  · obtain ⟨h1, hn, b, d, h2, hc, h3⟩ := E.bor i q hb
    refine ⟨h1, hn, b, d, h2, hc, ?_⟩
    rcases h3 with h3 | ⟨u, h3⟩
    · exact .inl h3
    · exact .inr ⟨u, sg _ _ h3⟩
  · by_cases hp : a = p
    · subst hp; exact .inl (E.h0 h)
    · rw [upd_ne hp] at e; exact E.fz a u e
/-- a fresh owned thing becomes frozen -/
theorem ED.keepO (E : ED C Y G σ H ρ) {p : Addr} {d : D} (gn : G p = none) (o : ownAt C.b G H p d) (h0 : Y.H0 p = none) (nr : ∀ (i : Nat) (e : D), ρ[i]? = some (some (true, e)) → σ[i]? ≠ some (some (.ref p))) :
    ∃ u, H p = some u ∧ Sub G (upd G p u) ∧ ED C Y (upd G p u) σ H ρ ∧ den C.b (upd G p u) d (.ref p) := by
  obtain ⟨u, hu⟩ := o.some
  have sg : Sub G (upd G p u) := Sub.new gn
  refine ⟨u, hu, sg, ⟨fun a w e => ?_, fun i d e => ?_, fun i d e => ?_, E.ap, E.len, fun i q hb => ?_, E.old, fun a w e => ?_, E.g0.trans sg, E.tb, gt_upd E.gt (by obtain ⟨u', hu', hq⟩ := o.quiet; exact tabs_no E.tb.2 hu' hq)⟩, ?_⟩
  · by_cases hp : a = p
    · subst hp; rw [upd_same] at e; cases e; exact hu
    · rw [upd_ne hp] at e; exact E.sub a w e
  · obtain ⟨v, v1, v2⟩ := E.frz i d e
    exact ⟨v, v1, den.mono sg _ _ v2⟩
  · obtain ⟨q, q1, q2, q3, q4⟩ := E.own i d e
    have hq : q ≠ p := fun z => nr i d e (z ▸ q1)
    exact ⟨q, q1, by rw [upd_ne hq]; exact q2, q3.mono sg rfl, q4⟩
  · obtain ⟨h1, hn, b, d, h2, hc, h3⟩ := E.bor i q hb
    refine ⟨h1, hn, b, d, h2, hc, ?_⟩
    rcases h3 with h3 | ⟨u, h3⟩
    · exact .inl h3
    · exact .inr ⟨u, sg _ _ h3⟩
  · by_cases hp : a = p
    · subst hp; exact .inl h0
    · rw [upd_ne hp] at e; exact E.fz a w e
  · cases d <;> simp only [ownAt] at o
    · obtain ⟨vs, o1, o2⟩ := o
      rw [hu] at o1; cases o1
      unfold den
      exact ⟨p, vs, rfl, upd_same, denL.mono sg _ _ o2⟩
    · obtain ⟨vs, o1, o2⟩ := o
      rw [hu] at o1; cases o1
      unfold den
      exact ⟨p, vs, rfl, upd_same, denK.mono sg _ _ o2⟩
end
end DL

set_option Elab.async false
set_option linter.all false
set_option maxRecDepth 100000
/-! The data layer: operands, operators, builtin calls, displays, tests. -/
namespace DL
open PySem PySem.Spec L2
open PyProof.Rows hiding St

/-! ### lists of values -/
section
variable {α β : Type} {F : α → β → Prop}
theorem pd_get : ∀ {xs : List α} {ys : List β} {i : Nat} {x : α}, Paired F xs ys → xs[i]? = some x → ∃ y, ys[i]? = some y ∧ F x y
  | _, _, i, x, .nil, e => by simp at e
  | _, _, 0, x, .cons (b := b) r t, e => by
    simp at e; subst e; exact ⟨b, rfl, r⟩
  | _, _, i + 1, x, .cons r t, e => by
    obtain ⟨y, h1, h2⟩ := pd_get (i := i) t (by simpa using e)
    exact ⟨y, by simpa using h1, h2⟩
theorem pd_getR : ∀ {xs : List α} {ys : List β} {i : Nat} {y : β}, Paired F xs ys → ys[i]? = some y → ∃ x, xs[i]? = some x ∧ F x y
  | _, _, i, x, .nil, e => by simp at e
  | _, _, 0, x, .cons (a := b) r t, e => by
    simp at e; subst e; exact ⟨b, rfl, r⟩
  | _, _, i + 1, x, .cons r t, e => by
    obtain ⟨y, h1, h2⟩ := pd_getR (i := i) t (by simpa using e)
    exact ⟨y, by simpa using h1, h2⟩
theorem pd_app : ∀ {xs xs' : List α} {ys ys' : List β}, Paired F xs ys → Paired F xs' ys' → Paired F (xs ++ xs') (ys ++ ys')
  | _, _, _, _, .nil, s => s
  | _, _, _, _, .cons r t, s => .cons r (pd_app t s)
theorem pd_take : ∀ {xs : List α} {ys : List β} (n : Nat), Paired F xs ys → Paired F (xs.take n) (ys.take n)
  | _, _, 0, _ => by simp; exact .nil
  | _, _, _ + 1, .nil => .nil
  | _, _, n + 1, .cons r t => .cons r (pd_take n t)
theorem pd_drop : ∀ {xs : List α} {ys : List β} (n : Nat), Paired F xs ys → Paired F (xs.drop n) (ys.drop n)
  | _, _, 0, r => r
  | _, _, _ + 1, .nil => .nil
  | _, _, n + 1, .cons r t => pd_drop n t
theorem pd_set {x : α} {y : β} (r : F x y) : ∀ {xs : List α} {ys : List β} (i : Nat), Paired F xs ys → Paired F (xs.set i x) (ys.set i y)
  | _, _, _, .nil => .nil
  | _, _, 0, .cons _ t => .cons r t
  | _, _, i + 1, .cons q t => .cons q (pd_set r i t)
theorem pd_erase : ∀ {xs : List α} {ys : List β} (i : Nat), Paired F xs ys → Paired F (xs.eraseIdx i) (ys.eraseIdx i)
  | _, _, _, .nil => .nil
  | _, _, 0, .cons _ t => t
  | _, _, i + 1, .cons q t => .cons q (pd_erase i t)
theorem pd_map {γ δ : Type} {f : γ → α} {g : δ → β} : ∀ {xs : List γ} {ys : List δ}, Paired (fun x y => F (f x) (g y)) xs ys → Paired F (xs.map f) (ys.map g)
  | _, _, .nil => .nil
  | _, _, .cons r t => .cons r (pd_map t)
end
section
variable {C : Cb} {G : Hp}
theorem denL_iff : ∀ {ds : List D} {vs : List V}, denL C G ds vs ↔ Paired (den C G) ds vs
  | [], vs => by
    unfold denL
    constructor
    · rintro rfl; exact .nil
    · intro h; cases h; rfl
  | d :: ds, vs => by
    unfold denL
    constructor
    · rintro ⟨v, r, rfl, h1, h2⟩; exact .cons h1 (denL_iff.mp h2)
    · intro h; cases h with | cons a b => exact ⟨_, _, rfl, a, denL_iff.mpr b⟩
theorem denK_iff : ∀ {ds : List (Key × D)} {vs : List (Key × V)}, denK C G ds vs ↔ Paired (fun p q => p.1 = q.1 ∧ den C G p.2 q.2) ds vs
  | [], vs => by
    unfold denK
    constructor
    · rintro rfl; exact .nil
    · intro h; cases h; rfl
  | (k, d) :: ds, vs => by
    unfold denK
    constructor
    · rintro ⟨v, r, rfl, h1, h2⟩; exact .cons ⟨rfl, h1⟩ (denK_iff.mp h2)
    · intro h
      cases h with
      | cons a b =>
        rename_i q r
        obtain ⟨k', v'⟩ := q
        obtain ⟨h1, h2⟩ := a
        dsimp only at h1 h2
        subst h1
        exact ⟨_, _, rfl, h2, denK_iff.mpr b⟩
theorem denL.len {ds : List D} {vs : List V} (h : denL C G ds vs) : ds.length = vs.length := (denL_iff.mp h).length
end

/-! ### what a place holds, frozen or owned -/
def DV (C : Cb) (G H : Hp) (d : D) (v : V) : Prop := den C G d v ∨ ∃ p, v = .ref p ∧ ownAt C G H p d
section
variable {C : Cb} {Y : Gr} {G H : Hp} {σ : St} {ρ : DEnv} {v : V}
theorem DV.lst (s : Sub G H) {xs : List D} (h : DV C G H (.lst xs) v) : ∃ a vs, v = .ref a ∧ H a = some (.lst vs) ∧ denL C G xs vs := by
  rcases h with h | ⟨p, rfl, vs, h1, h2⟩
  · unfold den at h
    obtain ⟨a, vs, rfl, h1, h2⟩ := h
    exact ⟨a, vs, rfl, s _ _ h1, h2⟩
  · exact ⟨p, vs, rfl, h1, h2⟩
theorem DV.dK (s : Sub G H) {xs : List (Key × D)} (h : DV C G H (.dK xs) v) : ∃ a vs, v = .ref a ∧ H a = some (.dK vs) ∧ denK C G xs vs := by
  rcases h with h | ⟨p, rfl, vs, h1, h2⟩
  · unfold den at h
    obtain ⟨a, vs, rfl, h1, h2⟩ := h
    exact ⟨a, vs, rfl, s _ _ h1, h2⟩
  · exact ⟨p, vs, rfl, h1, h2⟩
theorem DV.tup {K : PySem.W.Frag} (hK : C.K = K) (s : Sub G H) {xs : List D} (h : DV C G H (.tup xs) v) : ∃ a vs, v = .ref a ∧ SqT K H a vs ∧ denL C G xs vs := by
  rcases h with h | ⟨p, rfl, h⟩
  · unfold den at h
    obtain ⟨a, vs, rfl, h1, h2⟩ := h
    exact ⟨a, vs, rfl, by rw [← hK]; exact s.sqT h1, h2⟩
  · exact h.elim
theorem DV.int {i : Int} (h : DV C G H (.int i) v) : v = .int i := by
  rcases h with h | ⟨p, _, h⟩
  · unfold den at h; exact h
  · exact h.elim
theorem DV.bl {i : Bool} (h : DV C G H (.bl i) v) : v = .bl i := by
  rcases h with h | ⟨p, _, h⟩
  · unfold den at h; exact h
  · exact h.elim
theorem DV.str {i : Str} (h : DV C G H (.str i) v) : v = .str i := by
  rcases h with h | ⟨p, _, h⟩
  · unfold den at h; exact h
  · exact h.elim
theorem DV.non (h : DV C G H .non v) : v = .non := by
  rcases h with h | ⟨p, _, h⟩
  · unfold den at h; exact h
  · exact h.elim
theorem DV.scr {K : PySem.W.Frag} (hK : C.K = K) {i : List Int} (s : Sub G H) (h : DV C G H (.scr i) v) : ∃ a, v = .ref a ∧ SqL K H a (i.map V.int) := by
  rcases h with h | ⟨p, _, h⟩
  · unfold den at h
    obtain ⟨a, rfl, h⟩ := h
    exact ⟨a, rfl, by rw [← hK]; exact s.sqL h⟩
  · exact h.elim
end

def look (o : Opd) (ρ : DEnv) : Option D := match o with
  | .val d => some d
  | .own d => some d
  | .slot i => match ρ[i]? with
    | some (some (_, d)) => some d
    | _ => none
def nrmO : Opd → Opd
  | .own d => .val d
  | o => o
/-- an operand that stays while others are reckoned: nothing fresh and owned -/
def Pl : Opd → Prop
  | .own _ => False
  | _ => True
def nrm (f : M Opd) : M Opd := fun ρ => (f ρ).bind fun o ρ1 => .ok (nrmO o) ρ1
theorem nrmO_pl : ∀ o, Pl (nrmO o)
  | .val _ => trivial
  | .own _ => trivial
  | .slot _ => trivial
section
variable {C : Cn} {Y : Gr} {G G' H H' : Hp} {σ : St} {ρ ρ' : DEnv} {v : V} {o : Opd}
theorem OD.mv (h : OD C Y G σ H ρ o v) (p : Pl o) (s : Sub G G') : OD C Y G' σ H' ρ' o v := by
  cases o with
  | val d => exact den.mono s _ _ h
  | slot i => exact h
  | own d => exact p.elim
theorem look_ok (E : ED C Y G σ H ρ) (h : OD C Y G σ H ρ o v) {d : D} (e : look o ρ = some d) : DV C.b G H d v := by
  cases o with
  | val d' => cases e; exact .inl h
  | own d' =>
    cases e
    obtain ⟨p, rfl, _, h2, _⟩ := h
    exact .inr ⟨p, rfl, h2⟩
  | slot i =>
    unfold look at e
    dsimp only at e
    split at e
    · rename_i b d' hr
      cases e
      cases b with
      | false =>
        obtain ⟨w, w1, w2⟩ := E.frz i _ hr
        have : σ[i]? = some (some v) := h
        rw [this] at w1; cases w1
        exact .inl w2
      | true =>
        obtain ⟨p, w1, w2, w3, _⟩ := E.own i _ hr
        have : σ[i]? = some (some v) := h
        rw [this] at w1; cases w1
        exact .inr ⟨p, rfl, w3⟩
    · cases e
end

section
variable {X : Cx} {C : Cn} {W : WX} {e a b : Expr} {f g : M Opd} {pos : Pos}

theorem tE_nrm {σ : St} {H : Hp} {Q : VK} (h : tE C W (nrm f) σ H Q) : tE C W f σ H Q := by
  obtain ⟨Y, G, ρ, E, p⟩ := h
  refine ⟨Y, G, ρ, E, ?_⟩
  unfold nrm at p
  cases hf : f ρ with
  | bad => rw [hf] at p; exact p
  | exc c d ρ1 => rw [hf] at p; exact p
  | ok o ρ1 =>
    rw [hf] at p
    cases o with
    | val d => exact p
    | slot i => exact p
    | own d =>
      intro G' H' v s E' od
      obtain ⟨q, rfl, gn, oa, h0, nr⟩ := od
      obtain ⟨u, hu, sg, E2, dn⟩ := E'.keepO gn oa h0 nr
      exact p (upd G' q u) H' _ (s.trans sg) E2 dn
theorem pe_nrm (h : PE X e (tE C W f)) : PE X e (tE C W (nrm f)) := PE.st h fun _ _ _ q => tE_nrm q

/-- what is asked of a result, whatever its kind -/
structure Lk (C : Cn) (W : WX) (Y : Gr) (σ : St) {β : Type} (P : Hp → R β → Prop) : Prop where
  mono : ∀ {G G' r}, Sub G G' → P G r → P G' r
  exc : ∀ {G c d ρ}, P G (.exc c d ρ) → ∀ T dx G' H, C.b.mg c = some (.ref T) → Sub G G' → ED C Y G' σ H ρ → XD C.b Y G' H dx d → W (.ref T) (some dx) σ H
  bad : ∀ {G}, P G .bad → False
theorem Post.lk {Y : Gr} {σ : St} {Q : VK} : Lk C W Y σ (fun G r => Post C W Q Y G σ r) := ⟨fun s p => p.mono s, fun p => p, fun p => p⟩
theorem PostT.lk {Y : Gr} {σ : St} {Q : Bool → Hp → Prop} : Lk C W Y σ (fun G r => PostT C W Q Y G σ r) := ⟨fun s p => p.mono s, fun p => p, fun p => p⟩
theorem PostA.lk {Y : Gr} {σ : St} {Q : List V → Hp → Prop} : Lk C W Y σ (fun G r => PostA C W Q Y G σ r) := ⟨fun s p => p.mono s, fun p => p, fun p => p⟩
theorem PostS.lk {Y : Gr} {σ : St} {N : Ends} : Lk C W Y σ (fun G r => PostS C W N Y G r) := ⟨fun s p => p.mono s, fun p T dx G' H => p T dx G' σ H, fun p => p⟩

/-- one operand as it is, then what follows -/
theorem seq0 {β : Type} {Y : Gr} {G : Hp} {σ : St} {H : Hp} {ρ : DEnv} {P : Hp → R β → Prop} (L : Lk C W Y σ P) {k : Opd → DEnv → R β} (E : ED C Y G σ H ρ) (p : P G ((f ρ).bind k)) {S : VK}
    (h : ∀ G' H1 ρ1 o v, Sub G G' → ED C Y G' σ H1 ρ1 → OD C Y G' σ H1 ρ1 o v → P G' (k o ρ1) → S v H1) : tE C W f σ H S := by
  refine ⟨Y, G, ρ, E, ?_⟩
  cases hf : f ρ with
  | bad => rw [hf] at p; exact (L.bad p).elim
  | exc c d ρ1 => rw [hf] at p; exact L.exc p
  | ok o ρ1 =>
    rw [hf] at p
    intro G' H' v s E' od
    exact h G' H' ρ1 o v s E' od (L.mono s p)
/-- one operand that stays, then what follows -/
theorem seq1 {β : Type} {Y : Gr} {G : Hp} {σ : St} {H : Hp} {ρ : DEnv} {P : Hp → R β → Prop} (L : Lk C W Y σ P) {k : Opd → DEnv → R β} (E : ED C Y G σ H ρ) (p : P G ((nrm f ρ).bind k)) {S : VK}
    (h : ∀ G' H1 ρ1 o v, Sub G G' → Pl o → ED C Y G' σ H1 ρ1 → OD C Y G' σ H1 ρ1 o v → P G' (k o ρ1) → S v H1) : tE C W f σ H S := by
  refine tE_nrm ⟨Y, G, ρ, E, ?_⟩
  have hpl : ∀ o ρ1, nrm f ρ = .ok o ρ1 → Pl o := fun o ρ1 e => by
    unfold nrm at e
    cases hf : f ρ with
    | ok o' ρ' => rw [hf] at e; cases e; exact nrmO_pl _
    | exc c d ρ' => rw [hf] at e; cases e
    | bad => rw [hf] at e; cases e
  cases hf : nrm f ρ with
  | bad => rw [hf] at p; exact (L.bad p).elim
  | exc c d ρ1 => rw [hf] at p; exact L.exc p
  | ok o ρ1 =>
    rw [hf] at p
    intro G' H' v s E' od
    exact h G' H' ρ1 o v s (hpl _ _ hf) E' od (L.mono s p)
/-- a test, then what follows -/
theorem seqT {β : Type} {Y : Gr} {G : Hp} {σ : St} {H : Hp} {ρ : DEnv} {P : Hp → R β → Prop} (L : Lk C W Y σ P) {t : M Bool} {k : Bool → DEnv → R β} (E : ED C Y G σ H ρ) (p : P G ((t ρ).bind k)) {S : Bool → Hp → Prop}
    (h : ∀ G' H1 ρ1 b, Sub G G' → ED C Y G' σ H1 ρ1 → P G' (k b ρ1) → S b H1) : tT C W t σ H S := by
  refine ⟨Y, G, ρ, E, ?_⟩
  cases hf : t ρ with
  | bad => rw [hf] at p; exact (L.bad p).elim
  | exc c d ρ1 => rw [hf] at p; exact L.exc p
  | ok o ρ1 =>
    rw [hf] at p
    intro G' H' s E'
    exact h G' H' ρ1 o s E' (L.mono s p)
/-- arguments, then what follows -/
theorem seqA {β : Type} {Y : Gr} {G : Hp} {σ : St} {H : Hp} {ρ : DEnv} {P : Hp → R β → Prop} (L : Lk C W Y σ P) {t : M (List Opd)} {k : List Opd → DEnv → R β} (E : ED C Y G σ H ρ) (p : P G ((t ρ).bind k)) {S : List V → Hp → Prop}
    (h : ∀ G' H1 ρ1 os vs, Sub G G' → ED C Y G' σ H1 ρ1 → allOD C Y G' σ H1 ρ1 os vs → P G' (k os ρ1) → S vs H1) : tA C W t σ H S := by
  refine ⟨Y, G, ρ, E, ?_⟩
  cases hf : t ρ with
  | bad => rw [hf] at p; exact (L.bad p).elim
  | exc c d ρ1 => rw [hf] at p; exact L.exc p
  | ok o ρ1 =>
    rw [hf] at p
    intro G' H' v s E' od
    exact h G' H' ρ1 o v s E' od (L.mono s p)

def fin1 (F : D → Option Opd) (x : Opd) (ρ : DEnv) : R Opd := match look x ρ with
  | some a => match F a with
    | some o => .ok o ρ
    | none => .bad
  | none => .bad
def fin2 (F : D → D → Option Opd) (x y : Opd) (ρ : DEnv) : R Opd := match look x ρ, look y ρ with
  | some a, some b => match F a b with
    | some o => .ok o ρ
    | none => .bad
  | _, _ => .bad
def e1 (f : M Opd) (F : D → Option Opd) : M Opd := fun ρ => (nrm f ρ).bind fun x ρ1 => fin1 F x ρ1
def e2 (f g : M Opd) (F : D → D → Option Opd) : M Opd := fun ρ => (nrm f ρ).bind fun x ρ1 => (nrm g ρ1).bind fun y ρ2 => fin2 F x y ρ2

/-- what follows: any end of the result's kind -/
def Aft (C : Cn) (Y : Gr) (G : Hp) (σ : St) (ρ : DEnv) (o : Opd) (Q : VK) : Prop := ∀ G' H' v, Sub G G' → ED C Y G' σ H' ρ → OD C Y G' σ H' ρ o v → Q v H'
def OpD (C : Cn) (F : D → D → Option Opd) (r : R2) : Prop := ∀ {Y : Gr} {G : Hp} {σ : St} {H : Hp} {ρ : DEnv} {Q : VK} {x y : V} {dx dy : D} {o : Opd}, ED C Y G σ H ρ → DV C.b G H dx x → DV C.b G H dy y → F dx dy = some o → Aft C Y G σ ρ o Q → r x y H Q
def UnD (C : Cn) (F : D → Option Opd) (r : V → Hp → VK → Prop) : Prop := ∀ {Y : Gr} {G : Hp} {σ : St} {H : Hp} {ρ : DEnv} {Q : VK} {x : V} {dx : D} {o : Opd}, ED C Y G σ H ρ → DV C.b G H dx x → F dx = some o → Aft C Y G σ ρ o Q → r x H Q

theorem fin2_ok {r : R2} {F : D → D → Option Opd} (hF : OpD C F r) {Y : Gr} {G : Hp} {σ : St} {H : Hp} {ρ : DEnv} {Q : VK} {o1 o2 : Opd} {v1 v2 : V} (E : ED C Y G σ H ρ) (h1 : OD C Y G σ H ρ o1 v1) (h2 : OD C Y G σ H ρ o2 v2)
    {P : Hp → R Opd → Prop} (p : P G (fin2 F o1 o2 ρ)) (hp : ∀ {o}, P G (.ok o ρ) → Aft C Y G σ ρ o Q) (hb : P G .bad → False) : r v1 v2 H Q := by
  unfold fin2 at p
  cases l1 : look o1 ρ with
  | none => rw [l1] at p; exact (hb p).elim
  | some d1 =>
    cases l2 : look o2 ρ with
    | none => rw [l1, l2] at p; exact (hb p).elim
    | some d2 =>
      rw [l1, l2] at p
      dsimp only at p
      cases hf : F d1 d2 with
      | none => rw [hf] at p; exact (hb p).elim
      | some o =>
        rw [hf] at p
        exact hF E (look_ok E h1 l1) (look_ok E h2 l2) hf (hp p)
theorem tOp_of {r : R2} {F : D → D → Option Opd} (hF : OpD C F r) {σ : St} {H : Hp} {Q : VK} (h : tE C W (e2 f g F) σ H Q) : tOp r (tE C W f) (tE C W g) σ H Q := by
  obtain ⟨Y, G, ρ, E, p⟩ := h
  refine seq1 Post.lk E p fun G1 H1 ρ1 o1 v1 s1 pl1 E1 od1 p1 => ?_
  refine seq1 Post.lk E1 p1 fun G2 H2 ρ2 o2 v2 s2 pl2 E2 od2 p2 => ?_
  exact fin2_ok hF (P := fun G r => Post C W Q Y G σ r) E2 (od1.mv pl1 s2) od2 p2 (fun q => q) (fun q => q)
theorem pe_op2 {op : Operator} {r : R2} {F : D → D → Option Opd} (ho : OpR X (binaryOp op) r) (hF : OpD C F r) (ha : PE X a (tE C W f)) (hb : PE X b (tE C W g)) : PE X (.BinOp a op b pos) (tE C W (e2 f g F)) :=
  PE.st (pe_op ho ha hb) fun _ _ _ h => tOp_of hF h
theorem pe_cmp2 {op : CmpOp} {r : R2} {F : D → D → Option Opd} (ho : OpR X (compareOp op) r) (hF : OpD C F r) (ha : PE X a (tE C W f)) (hb : PE X b (tE C W g)) (hm : behindInMarks op b = false) : PE X (.Compare a [op] [b] pos) (tE C W (e2 f g F)) :=
  PE.st (pe_cmpR ho ha hb hm) fun _ _ _ h => tOp_of hF h
theorem pe_un1 {op : UnaryOp} {r : V → Hp → VK → Prop} {F : D → Option Opd} (ho : UnR X (unaryOp op) r) (hF : UnD C F r) (ha : PE X a (tE C W f)) : PE X (.UnaryOp op a pos) (tE C W (e1 f F)) := by
  refine PE.st (pe_un ho ha) fun σ H Q h => ?_
  obtain ⟨Y, G, ρ, E, p⟩ := h
  refine seq1 Post.lk E p fun G1 H1 ρ1 o1 v1 s1 pl1 E1 od1 p1 => ?_
  unfold fin1 at p1
  cases l1 : look o1 ρ1 with
  | none => rw [l1] at p1; exact p1.elim
  | some d1 =>
    rw [l1] at p1
    dsimp only at p1
    cases hf : F d1 with
    | none => rw [hf] at p1; exact p1.elim
    | some o => rw [hf] at p1; exact hF E1 (look_ok E1 od1 l1) hf p1

/-! ### tests -/
def finT (o : Opd) (ρ : DEnv) : R Bool := match look o ρ with
  | some (.bl b) => .ok b ρ
  | _ => .bad
def tV (f : M Opd) : M Bool := fun ρ => (nrm f ρ).bind finT
theorem finT_ok {Y : Gr} {G : Hp} {σ : St} {H : Hp} {ρ : DEnv} {o : Opd} {v : V} (E : ED C Y G σ H ρ) (od : OD C Y G σ H ρ o v) {P : R Bool → Prop} (p : P (finT o ρ)) (hb : P .bad → False) : ∃ b, v = .bl b ∧ P (.ok b ρ) := by
  unfold finT at p
  cases l : look o ρ with
  | none => rw [l] at p; exact (hb p).elim
  | some d =>
    rw [l] at p
    cases d with
    | bl b => exact ⟨b, (look_ok E od l).bl, p⟩
    | _ => exact (hb p).elim
theorem tB_of {σ : St} {H : Hp} {Q : Bool → Hp → Prop} (h : tT C W (tV f) σ H Q) : tB (tE C W f) σ H Q := by
  obtain ⟨Y, G, ρ, E, p⟩ := h
  refine seq1 PostT.lk E p fun G1 H1 ρ1 o1 v1 s1 pl1 E1 od1 p1 => ?_
  obtain ⟨b, rfl, q⟩ := finT_ok E1 od1 p1 (fun z => z)
  exact ⟨b, rfl, q G1 H1 Sub.rfl E1⟩
theorem pt_valD (h : PE X e (tE C W f)) (he : ∀ whole, isTrue e X.env whole = (do let v ← whole; standAt e.pos; holding [v] (truthy v)) := by intro _; rfl) : PT X e (tT C W (tV f)) :=
  PT.st (pt_val h he) fun _ _ _ q => tB_of q
theorem pt_cmp2 {op : CmpOp} {r : R2} {F : D → D → Option Opd} (ho : OpR X (compareOp op) r) (hF : OpD C F r) (ha : PE X a (tE C W f)) (hb : PE X b (tE C W g)) (hm : behindInMarks op b = false) : PT X (.Compare a [op] [b] pos) (tT C W (tV (e2 f g F))) := by
  refine PT.st (pt_cmpR ho ha hb hm) fun σ H Q h => ?_
  have h2 := tB_of h
  exact tOp_of hF h2
end
end DL

set_option Elab.async false
set_option linter.all false
set_option maxRecDepth 100000
/-! The data layer: names, constants, and / or / if, arguments, displays, freezing. -/
namespace DL
open PySem PySem.Spec L2
open PyProof.Rows hiding St

def eC (d : D) : M Opd := fun ρ => .ok (.val d) ρ
def eV (i : Nat) : M Opd := fun ρ => match ρ[i]? with
  | some (some _) => .ok (.slot i) ρ
  | _ => .bad

section
variable {X : Cx} {C : Cn} {W : WX} {e a b : Expr} {f g h : M Opd} {pos : Pos}
theorem tC_of {d : D} {v : V} (hd : ∀ G, den C.b G d v) {σ : St} {H : Hp} {Q : VK} (q : tE C W (eC d) σ H Q) : tC v σ H Q := by
  obtain ⟨Y, G, ρ, E, p⟩ := q
  exact p G H v Sub.rfl E (hd G)
theorem de_int {i j pos} : PE X (.Constant (.int i) j pos) (tE C W (eC (.int i))) := PE.st pe_int fun _ _ _ q => tC_of (fun _ => by unfold den; rfl) q
theorem de_bl {i j pos} : PE X (.Constant (.bool i) j pos) (tE C W (eC (.bl i))) := PE.st pe_bl fun _ _ _ q => tC_of (fun _ => by unfold den; rfl) q
theorem de_non {j pos} : PE X (.Constant .none j pos) (tE C W (eC .non)) := PE.st pe_non fun _ _ _ q => tC_of (fun _ => by unfold den; rfl) q
theorem de_str {i j pos} : PE X (.Constant (.str i) j pos) (tE C W (eC (.str i))) := PE.st pe_str fun _ _ _ q => tC_of (fun _ => by unfold den; rfl) q
theorem de_var (i : Nat) {x : Str} {pos : Pos} (hN : X.N[i]? = some x := by rfl) (hv : Vis X.env.scope x := by first | exact Or.inl rfl | exact Or.inr (Or.inl rfl) | exact Or.inr (Or.inr rfl)) (hd : (x == ("__debug__" : Str)) = false := by decide)
    (hcd : (x == ("__classdict__" : Str)) = false := by decide) : PE X (.Name x pos) (tE C W (eV i)) := by
  refine PE.st (pe_var hN hv hd hcd) fun σ H Q q => ?_
  obtain ⟨Y, G, ρ, E, p⟩ := q
  unfold eV at p
  split at p
  · rename_i bd hr
    obtain ⟨bb, d⟩ := bd
    have : ∃ v, σ[i]? = some (some v) := by
      cases bb with
      | false => obtain ⟨v, h1, _⟩ := E.frz i d hr; exact ⟨v, h1⟩
      | true => obtain ⟨v, h1, _⟩ := E.own i d hr; exact ⟨_, h1⟩
    obtain ⟨v, hv⟩ := this
    exact ⟨v, hv, p G H v Sub.rfl E hv⟩
  · exact p.elim
/-- a constant of the module, or of the built-ins, that is a plain value -/
theorem de_glob {x : Str} {d : D} {v : V} {u : Value} {pos : Pos} (hg : Gl X x) (hm : X.mg x = some u) (r : RelV v u) (hd : ∀ G, den C.b G d v) (hdb : (x == ("__debug__" : Str)) = false := by decide) : PE X (.Name x pos) (tE C W (eC d)) :=
  PE.st (pe_glob hg hm r hdb) fun _ _ _ q => tC_of hd q

/-! ### and, or, not, if -/
def eAnd (f g : M Opd) : M Opd := fun ρ => (nrm f ρ).bind fun o ρ1 => match look o ρ1 with
  | some (.bl true) => g ρ1
  | some (.bl false) => .ok (.val (.bl false)) ρ1
  | _ => .bad
def eOr (f g : M Opd) : M Opd := fun ρ => (nrm f ρ).bind fun o ρ1 => match look o ρ1 with
  | some (.bl false) => g ρ1
  | some (.bl true) => .ok (.val (.bl true)) ρ1
  | _ => .bad
def notF : D → Option Opd
  | .bl b => some (.val (.bl (!b)))
  | _ => none
def eIf (t : M Bool) (f g : M Opd) : M Opd := fun ρ => (t ρ).bind fun b ρ1 => if b then f ρ1 else g ρ1
variable {rest : List Expr}
theorem de_one {op} (h : PE X a (tE C W f)) : PE X (.BoolOp op [a] pos) (tE C W f) := pe_one h
theorem de_and (ha : PE X a (tE C W f)) (hb : PE X (.BoolOp .And (b :: rest) pos) (tE C W g)) : PE X (.BoolOp .And (a :: b :: rest) pos) (tE C W (eAnd f g)) := by
  refine PE.st (pe_and ha hb) fun σ H Q q => ?_
  obtain ⟨Y, G, ρ, E, p⟩ := q
  refine seq1 Post.lk E p fun G1 H1 ρ1 o1 v1 s1 pl1 E1 od1 p1 => ?_
  cases l : look o1 ρ1 with
  | none => rw [l] at p1; exact p1.elim
  | some d =>
    rw [l] at p1
    cases d with
    | bl c =>
      refine ⟨c, (look_ok E1 od1 l).bl, ?_⟩
      cases c with
      | true => exact ⟨Y, G1, ρ1, E1, p1⟩
      | false => exact p1 G1 H1 _ Sub.rfl E1 (by unfold OD den; rfl)
    | _ => exact p1.elim
theorem de_or (ha : PE X a (tE C W f)) (hb : PE X (.BoolOp .Or (b :: rest) pos) (tE C W g)) : PE X (.BoolOp .Or (a :: b :: rest) pos) (tE C W (eOr f g)) := by
  refine PE.st (pe_or ha hb) fun σ H Q q => ?_
  obtain ⟨Y, G, ρ, E, p⟩ := q
  refine seq1 Post.lk E p fun G1 H1 ρ1 o1 v1 s1 pl1 E1 od1 p1 => ?_
  cases l : look o1 ρ1 with
  | none => rw [l] at p1; exact p1.elim
  | some d =>
    rw [l] at p1
    cases d with
    | bl c =>
      refine ⟨c, (look_ok E1 od1 l).bl, ?_⟩
      cases c with
      | false => exact ⟨Y, G1, ρ1, E1, p1⟩
      | true => exact p1 G1 H1 _ Sub.rfl E1 (by unfold OD den; rfl)
    | _ => exact p1.elim
theorem de_not (ha : PE X a (tE C W f)) : PE X (.UnaryOp .Not a pos) (tE C W (e1 f notF)) := by
  refine PE.st (pe_not ha) fun σ H Q q => ?_
  obtain ⟨Y, G, ρ, E, p⟩ := q
  refine seq1 Post.lk E p fun G1 H1 ρ1 o1 v1 s1 pl1 E1 od1 p1 => ?_
  unfold fin1 at p1
  cases l : look o1 ρ1 with
  | none => rw [l] at p1; exact p1.elim
  | some d =>
    rw [l] at p1
    cases d with
    | bl c => exact ⟨c, (look_ok E1 od1 l).bl, p1 G1 H1 _ Sub.rfl E1 (by unfold OD den; rfl)⟩
    | _ => exact p1.elim
theorem de_if {c : Expr} {t : M Bool} (hc : PT X c (tT C W t)) (ha : PE X a (tE C W f)) (hb : PE X b (tE C W g)) : PE X (.IfExp c a b pos) (tE C W (eIf t f g)) := by
  refine PE.st (pe_ifExp hc ha hb) fun σ H Q q => ?_
  obtain ⟨Y, G, ρ, E, p⟩ := q
  refine seqT Post.lk E p fun G1 H1 ρ1 b s1 E1 p1 => ?_
  cases b with
  | true => exact ⟨Y, G1, ρ1, E1, p1⟩
  | false => exact ⟨Y, G1, ρ1, E1, p1⟩
/-! the same as tests -/
def tAnd' (t u : M Bool) : M Bool := fun ρ => (t ρ).bind fun b ρ1 => if b then u ρ1 else .ok false ρ1
def tOr' (t u : M Bool) : M Bool := fun ρ => (t ρ).bind fun b ρ1 => if b then .ok true ρ1 else u ρ1
def tNot' (t : M Bool) : M Bool := fun ρ => (t ρ).bind fun b ρ1 => .ok (!b) ρ1
structure PWd (X : Cx) (e : Expr) (C : Cn) (W : WX) (t : M Bool) : Prop where
  pw : ∃ tt, PW X e tt ∧ ∀ σ H Q, tT C W t σ H Q → tt σ H Q
theorem PWd.pt {t : M Bool} (h : PWd X e C W t) : PT X e (tT C W t) := by
  obtain ⟨tt, h1, h2⟩ := h
  exact PT.st h1.pt h2
variable {t u : M Bool}
theorem dw_and1 (ha : PT X a (tT C W t)) : PWd X (.BoolOp .And [a] pos) C W t := ⟨_, pw_and1 ha, fun _ _ _ q => q⟩
theorem dw_or1 (ha : PT X a (tT C W t)) : PWd X (.BoolOp .Or [a] pos) C W t := ⟨_, pw_or1 ha, fun _ _ _ q => q⟩
theorem dw_and (ha : PT X a (tT C W t)) (hb : PWd X (.BoolOp .And (b :: rest) pos) C W u) : PWd X (.BoolOp .And (a :: b :: rest) pos) C W (tAnd' t u) := by
  obtain ⟨tt, h1, h2⟩ := hb
  refine ⟨_, pw_and ha h1, fun σ H Q q => ?_⟩
  obtain ⟨Y, G, ρ, E, p⟩ := q
  refine seqT PostT.lk E p fun G1 H1 ρ1 b s1 E1 p1 => ?_
  cases b with
  | true => exact h2 _ _ _ ⟨Y, G1, ρ1, E1, p1⟩
  | false => exact p1 G1 H1 Sub.rfl E1
theorem dw_or (ha : PT X a (tT C W t)) (hb : PWd X (.BoolOp .Or (b :: rest) pos) C W u) : PWd X (.BoolOp .Or (a :: b :: rest) pos) C W (tOr' t u) := by
  obtain ⟨tt, h1, h2⟩ := hb
  refine ⟨_, pw_or ha h1, fun σ H Q q => ?_⟩
  obtain ⟨Y, G, ρ, E, p⟩ := q
  refine seqT PostT.lk E p fun G1 H1 ρ1 b s1 E1 p1 => ?_
  cases b with
  | false => exact h2 _ _ _ ⟨Y, G1, ρ1, E1, p1⟩
  | true => exact p1 G1 H1 Sub.rfl E1
theorem dt_not (ha : PT X a (tT C W t)) : PT X (.UnaryOp .Not a pos) (tT C W (tNot' t)) := by
  refine PT.st (pt_not ha) fun σ H Q q => ?_
  obtain ⟨Y, G, ρ, E, p⟩ := q
  refine seqT PostT.lk E p fun G1 H1 ρ1 b s1 E1 p1 => ?_
  exact p1 G1 H1 Sub.rfl E1
end

/-! ### freezing: a value that is kept elsewhere -/
def takeO (o : Opd) (ρ : DEnv) : Option (D × DEnv) := match o with
  | .val d => some (d, ρ)
  | .own d => some (d, ρ)
  | .slot i => match ρ[i]? with
    | some (some (_, d)) => some (d, ρ.set i (some (false, d)))
    | _ => none
def takeAll : List Opd → DEnv → Option (List D × DEnv)
  | [], ρ => some ([], ρ)
  | o :: os, ρ => match takeO o ρ with
    | some (d, ρ1) => match takeAll os ρ1 with
      | some (ds, ρ2) => some (d :: ds, ρ2)
      | none => none
    | none => none
section
variable {C : Cn} {Y : Gr} {G G' H H' : Hp} {σ : St} {ρ ρ' : DEnv} {v : V} {o : Opd}
theorem set_get {ρ : DEnv} {i j : Nat} {x y : Slot} (h : (ρ.set i x)[j]? = some y) : (j = i ∧ y = x) ∨ (j ≠ i ∧ ρ[j]? = some y) := by
  by_cases hj : j = i
  · subst hj
    by_cases hl : j < ρ.length
    · rw [List.getElem?_set_self hl] at h
      cases h
      exact .inl ⟨rfl, rfl⟩
    · rw [List.getElem?_eq_none (by simpa using hl)] at h
      cases h
  · rw [List.getElem?_set_ne (Ne.symm hj)] at h
    exact .inr ⟨hj, h⟩
/-- a slot that is not owned is written anew, the same value behind it -/
theorem ED.reslot (E : ED C Y G σ H ρ) {i : Nat} {d : D} {w : V} (hσ : σ[i]? = some (some w)) (hd : den C.b G d w) (hb : ∀ b' d', ρ[i]? = some (some (b', d')) → isCont d' = true → isCont d = true ∧ ∀ p, w = .ref p → ∃ o, G p = some o) : ED C Y G σ H (ρ.set i (some (false, d))) := by
  refine ⟨E.sub, fun j e h => ?_, fun j e h => ?_, fun j k e e' p hjk h1 h2 => ?_, by rw [List.length_set]; exact E.len, fun j p hB => ?_, E.old, E.fz, E.g0, E.tb, E.gt⟩
  · rcases set_get h with ⟨rfl, q⟩ | ⟨_, q⟩
    · cases q; exact ⟨w, hσ, hd⟩
    · exact E.frz j e q
  · rcases set_get h with ⟨rfl, q⟩ | ⟨_, q⟩
    · cases q
    · exact E.own j e q
  · rcases set_get h1 with ⟨rfl, q⟩ | ⟨_, q⟩
    · cases q
    · rcases set_get h2 with ⟨rfl, q'⟩ | ⟨_, q'⟩
      · cases q'
      · exact E.ap j k e e' p hjk q q'
  · obtain ⟨h1, hn, b', d', h2, hc, h3⟩ := E.bor j p hB
    by_cases hj : j = i
    · subst hj
      obtain ⟨e1, e2⟩ := hb b' d' h2 hc
      rw [hσ] at h1; cases h1
      exact ⟨hσ, hn, false, d, by rw [List.getElem?_set_self (List.getElem?_eq_some_iff.mp h2).1], e1, .inr (e2 _ rfl)⟩
    · exact ⟨h1, hn, b', d', by rw [List.getElem?_set_ne (Ne.symm hj)]; exact h2, hc, h3⟩
/-- an owned slot is frozen -/
theorem ED.frzSlot (E : ED C Y G σ H ρ) {i : Nat} {b : Bool} {d : D} (hr : ρ[i]? = some (some (b, d))) (hσ : σ[i]? = some (some v)) :
    ∃ G', Sub G G' ∧ ED C Y G' σ H (ρ.set i (some (false, d))) ∧ den C.b G' d v := by
  cases b with
  | false =>
    obtain ⟨w, h1, h2⟩ := E.frz i d hr
    rw [hσ] at h1; cases h1
    exact ⟨G, Sub.rfl, E.reslot hσ h2 (fun b' d' q hc => by
      rw [hr] at q; cases q
      refine ⟨hc, fun p e => ?_⟩
      subst e
      cases d <;> first | cases hc | skip
      · unfold den at h2; obtain ⟨a, vs, e, h2, _⟩ := h2; cases e; exact ⟨_, h2⟩
      · unfold den at h2; obtain ⟨a, vs, e, h2, _⟩ := h2; cases e; exact ⟨_, h2⟩), h2⟩
  | true =>
    obtain ⟨p, h1, gn, oa, hB⟩ := E.own i d hr
    rw [hσ] at h1; cases h1
    obtain ⟨u, hu⟩ := oa.some
    have sg : Sub G (upd G p u) := Sub.new gn
    have dn : den C.b (upd G p u) d (.ref p) := by
      cases d <;> simp only [ownAt] at oa
      · obtain ⟨vs, o1, o2⟩ := oa
        rw [hu] at o1; cases o1
        unfold den
        exact ⟨p, vs, rfl, upd_same, denL.mono sg _ _ o2⟩
      · obtain ⟨vs, o1, o2⟩ := oa
        rw [hu] at o1; cases o1
        unfold den
        exact ⟨p, vs, rfl, upd_same, denK.mono sg _ _ o2⟩
    refine ⟨upd G p u, sg, ⟨fun a w e => ?_, fun j e h => ?_, fun j e h => ?_, fun j k e e' q hjk h1 h2 => ?_, by rw [List.length_set]; exact E.len, fun j q hq => ?_, E.old, fun a w e => ?_, E.g0.trans sg, E.tb, gt_upd E.gt (by obtain ⟨u', hu', hq⟩ := oa.quiet; exact tabs_no E.tb.2 hu' hq)⟩, dn⟩
    · by_cases hp : a = p
      · subst hp; rw [upd_same] at e; cases e; exact hu
      · rw [upd_ne hp] at e; exact E.sub a w e
    · rcases set_get h with ⟨rfl, q⟩ | ⟨_, q⟩
      · cases q; exact ⟨_, hσ, dn⟩
      · obtain ⟨w, w1, w2⟩ := E.frz j e q
        exact ⟨w, w1, den.mono sg _ _ w2⟩
    · rcases set_get h with ⟨rfl, q⟩ | ⟨hj, q⟩
      · cases q
      · obtain ⟨r, r1, r2, r3, r4⟩ := E.own j e q
        have hne : r ≠ p := fun z => E.ap j i e d p hj q hr (z ▸ r1) hσ
        exact ⟨r, r1, by rw [upd_ne hne]; exact r2, r3.mono sg rfl, r4⟩
    · rcases set_get h1 with ⟨rfl, q⟩ | ⟨_, q⟩
      · cases q
      · rcases set_get h2 with ⟨rfl, q'⟩ | ⟨_, q'⟩
        · cases q'
        · exact E.ap j k e e' _ hjk q q'
    · obtain ⟨h1, hn, b', d', h2, hc, h3⟩ := E.bor j q hq
      by_cases hj : j = i
      · subst hj
        rw [hr] at h2; cases h2
        rw [hσ] at h1; cases h1
        exact ⟨hσ, hn, false, d, by rw [List.getElem?_set_self (List.getElem?_eq_some_iff.mp hr).1], hc, .inr ⟨u, upd_same⟩⟩
      · refine ⟨h1, hn, b', d', by rw [List.getElem?_set_ne (Ne.symm hj)]; exact h2, hc, ?_⟩
        rcases h3 with h3 | ⟨w, h3⟩
        · exact .inl h3
        · exact .inr ⟨w, sg _ _ h3⟩
    · by_cases hp : a = p
      · subst hp
        rcases hB with hB | hB
        · exact .inl hB
        · exact .inr (.inr ⟨i, hB⟩)
      · rw [upd_ne hp] at e; exact E.fz a w e
theorem takeO_ok (E : ED C Y G σ H ρ) (od : OD C Y G σ H ρ o v) {d : D} (h : takeO o ρ = some (d, ρ')) : ∃ G', Sub G G' ∧ ED C Y G' σ H ρ' ∧ den C.b G' d v := by
  cases o with
  | val d' => cases h; exact ⟨G, Sub.rfl, E, od⟩
  | own d' =>
    cases h
    obtain ⟨p, rfl, gn, oa, h0, nr⟩ := od
    obtain ⟨u, hu, sg, E2, dn⟩ := E.keepO gn oa h0 nr
    exact ⟨_, sg, E2, dn⟩
  | slot i =>
    unfold takeO at h
    dsimp only at h
    split at h
    · rename_i b d' hr
      cases h
      exact E.frzSlot hr od
    · cases h
def allPl : List Opd → Prop
  | [] => True
  | o :: os => Pl o ∧ allPl os
theorem allOD.mv (s : Sub G G') : ∀ {os : List Opd} {vs : List V}, allPl os → allOD C Y G σ H ρ os vs → allOD C Y G' σ H' ρ' os vs
  | [], vs, _, h => h
  | o :: os, vs, pl, h => by
    obtain ⟨v, r, rfl, h1, h2⟩ := h
    exact ⟨v, r, rfl, h1.mv pl.1 s, allOD.mv s pl.2 h2⟩
theorem takeAll_ok : ∀ {os : List Opd} {vs : List V} {G : Hp} {ρ ρ' : DEnv} {ds : List D}, ED C Y G σ H ρ → allPl os → allOD C Y G σ H ρ os vs → takeAll os ρ = some (ds, ρ') → ∃ G', Sub G G' ∧ ED C Y G' σ H ρ' ∧ denL C.b G' ds vs
  | [], vs, G, ρ, ρ', ds, E, _, od, h => by
    cases h
    exact ⟨G, Sub.rfl, E, by unfold denL; exact od⟩
  | o :: os, vs, G, ρ, ρ', ds, E, pl, od, h => by
    obtain ⟨v, r, rfl, h1, h2⟩ := od
    unfold takeAll at h
    cases e1 : takeO o ρ with
    | none => rw [e1] at h; cases h
    | some p =>
      obtain ⟨d, ρ1⟩ := p
      rw [e1] at h
      dsimp only at h
      cases e2 : takeAll os ρ1 with
      | none => rw [e2] at h; cases h
      | some p2 =>
        obtain ⟨ds', ρ2⟩ := p2
        rw [e2] at h
        cases h
        obtain ⟨G1, s1, E1, d1⟩ := takeO_ok E h1 e1
        obtain ⟨G2, s2, E2, d2⟩ := takeAll_ok E1 pl.2 (h2.mv s1 pl.2) e2
        refine ⟨G2, s1.trans s2, E2, ?_⟩
        unfold denL
        exact ⟨v, r, rfl, den.mono s2 _ _ d1, d2⟩
end

/-! ### argument lists, displays -/
def eA : List (M Opd) → M (List Opd)
  | [] => fun ρ => .ok [] ρ
  | f :: fs => fun ρ => (nrm f ρ).bind fun o ρ1 => (eA fs ρ1).bind fun os ρ2 => .ok (o :: os) ρ2
def eTup (fs : List (M Opd)) : M Opd := fun ρ => (eA fs ρ).bind fun os ρ1 => match takeAll os ρ1 with
  | some (ds, ρ2) => if ds.length ≤ 16777216 then .ok (.val (.tup ds)) ρ2 else .bad
  | none => .bad
def eLst (fs : List (M Opd)) : M Opd := fun ρ => (eA fs ρ).bind fun os ρ1 => match takeAll os ρ1 with
  | some (ds, ρ2) => if ds.length ≤ 16777216 then .ok (.own (.lst ds)) ρ2 else .bad
  | none => .bad
theorem eA_pl : ∀ {fs : List (M Opd)} {ρ ρ' : DEnv} {os : List Opd}, eA fs ρ = .ok os ρ' → allPl os
  | [], ρ, ρ', os, h => by cases h; exact trivial
  | f :: fs, ρ, ρ', os, h => by
    unfold eA nrm at h
    cases e1 : f ρ with
    | bad => rw [e1] at h; cases h
    | exc c d ρ1 => rw [e1] at h; cases h
    | ok o ρ1 =>
      rw [e1] at h
      simp only [R.bind_ok] at h
      cases e2 : eA fs ρ1 with
      | bad => rw [e2] at h; cases h
      | exc c d ρ1 => rw [e2] at h; cases h
      | ok os' ρ2 =>
        rw [e2] at h
        cases h
        exact ⟨nrmO_pl _, eA_pl e2⟩
/-- arguments, then what follows; nothing among them is fresh and owned -/
theorem seqAp {C : Cn} {W : WX} {β : Type} {Y : Gr} {G : Hp} {σ : St} {H : Hp} {ρ : DEnv} {P : Hp → R β → Prop} (L : Lk C W Y σ P) {fs : List (M Opd)} {k : List Opd → DEnv → R β} (E : ED C Y G σ H ρ) (p : P G ((eA fs ρ).bind k)) {S : List V → Hp → Prop}
    (h : ∀ G' H1 ρ1 os vs, Sub G G' → allPl os → ED C Y G' σ H1 ρ1 → allOD C Y G' σ H1 ρ1 os vs → P G' (k os ρ1) → S vs H1) : tA C W (eA fs) σ H S := by
  refine ⟨Y, G, ρ, E, ?_⟩
  cases hf : eA fs ρ with
  | bad => rw [hf] at p; exact (L.bad p).elim
  | exc c d ρ1 => rw [hf] at p; exact L.exc p
  | ok o ρ1 =>
    rw [hf] at p
    intro G' H' v s E' od
    exact h G' H' ρ1 o v s (eA_pl hf) E' od (L.mono s p)
section
variable {X : Cx} {C : Cn} {W : WX} {e : Expr} {es : List Expr} {f : M Opd} {fs : List (M Opd)} {pos : Pos}
theorem da_nil : PA X [] (tA C W (eA [])) := PA.st pa_nil fun σ H Q q => by
  obtain ⟨Y, G, ρ, E, p⟩ := q
  exact p G H [] Sub.rfl E rfl
theorem da_cons (ha : PE X e (tE C W f)) (hr : PA X es (tA C W (eA fs))) (hs : starEach (e :: es) X.env = (false, eval e X.env) :: starEach es X.env := by rfl) : PA X (e :: es) (tA C W (eA (f :: fs))) :=
  PA.st (pa_cons ha hr hs) fun σ H Q q => by
    obtain ⟨Y, G, ρ, E, p⟩ := q
    refine seq1 (C := C) PostA.lk E p fun G1 H1 ρ1 o1 v1 s1 pl1 E1 od1 p1 => ?_
    refine seqA PostA.lk E1 p1 fun G2 H2 ρ2 os vs s2 E2 ods p2 => ?_
    exact p2 G2 H2 _ Sub.rfl E2 ⟨v1, vs, rfl, od1.mv pl1 s2, ods⟩
theorem sz_eq : sizeLine = 16777216 := sizeLine_eq
theorem de_tup {x1} (h : PA X es (tA C W (eA fs))) : PE X (.Tuple es x1 pos) (tE C W (eTup fs)) := by
  refine PE.st (pe_tup h) fun σ H Q q => ?_
  obtain ⟨Y, G, ρ, E, p⟩ := q
  refine seqAp Post.lk E p fun G1 H1 ρ1 os vs s1 pl E1 ods p1 => ?_
  cases e1 : takeAll os ρ1 with
  | none => rw [e1] at p1; exact p1.elim
  | some z =>
    obtain ⟨ds, ρ2⟩ := z
    rw [e1] at p1
    dsimp only at p1
    by_cases hz : ds.length ≤ 16777216
    · rw [if_pos hz] at p1
      obtain ⟨G2, s2, E2, d2⟩ := takeAll_ok E1 pl ods e1
      have hl := d2.len
      refine ⟨by rw [sz_eq]; omega, fun q hq => ?_⟩
      have E3 := E2.froze (o := .tup vs) hq
      have sg : Sub G2 (upd G2 q (.tup vs)) := Sub.new (E2.gn hq)
      refine p1 _ _ _ (s2.trans sg) E3 ?_
      unfold OD den
      exact ⟨q, vs, rfl, SqT.of upd_same, denL.mono sg _ _ d2⟩
    · rw [if_neg hz] at p1; exact p1.elim
/-- a new list, owned -/
theorem OD.fresh {Y : Gr} {G H : Hp} {σ : St} {ρ : DEnv} {q : Addr} {o : HO} {d : D} (E : ED C Y G σ H ρ) (hq : H q = none) (ho : ownAt C.b G (upd H q o) q d) : ED C Y G σ (upd H q o) ρ ∧ OD C Y G σ (upd H q o) ρ (.own d) (.ref q) := by
  refine ⟨E.laid hq, q, rfl, E.gn hq, ho, E.h0 hq, fun i e h1 h2 => ?_⟩
  obtain ⟨r, r1, _, r3, _⟩ := E.own i e h1
  rw [h2] at r1; cases r1
  obtain ⟨u, hu⟩ := r3.some
  rw [hq] at hu; cases hu
theorem de_lst (h : PA X es (tA C W (eA fs))) : PE X (.List es pos) (tE C W (eLst fs)) := by
  refine PE.st (pe_lst h) fun σ H Q q => ?_
  obtain ⟨Y, G, ρ, E, p⟩ := q
  refine seqAp Post.lk E p fun G1 H1 ρ1 os vs s1 pl E1 ods p1 => ?_
  cases e1 : takeAll os ρ1 with
  | none => rw [e1] at p1; exact p1.elim
  | some z =>
    obtain ⟨ds, ρ2⟩ := z
    rw [e1] at p1
    dsimp only at p1
    by_cases hz : ds.length ≤ 16777216
    · rw [if_pos hz] at p1
      obtain ⟨G2, s2, E2, d2⟩ := takeAll_ok E1 pl ods e1
      have hl := d2.len
      refine ⟨by rw [sz_eq]; omega, fun q hq => ?_⟩
      obtain ⟨E3, od⟩ := OD.fresh (d := .lst ds) E2 hq (o := .lst vs) ⟨vs, upd_same, d2⟩
      exact p1 _ _ _ s2 E3 od
    · rw [if_neg hz] at p1; exact p1.elim
end
end DL

set_option Elab.async false
set_option linter.all false
set_option maxRecDepth 100000
/-! The data layer: the operators. -/
namespace DL
open PySem PySem.Spec L2
open PyProof.Rows hiding St

section
variable {C : Cn} {Y : Gr} {G H : Hp} {σ : St} {ρ : DEnv} {Q : VK} {d : D} {o : Opd}
/-- a plain value as the result -/
theorem Aft.val {v : V} (E : ED C Y G σ H ρ) (a : Aft C Y G σ ρ (.val d) Q) (h : den C.b G d v) : Q v H := a G H v Sub.rfl E h
theorem Aft.int {i : Int} (E : ED C Y G σ H ρ) (a : Aft C Y G σ ρ (.val (.int i)) Q) : Q (.int i) H := a.val E (by unfold den; rfl)
theorem Aft.bl {i : Bool} (E : ED C Y G σ H ρ) (a : Aft C Y G σ ρ (.val (.bl i)) Q) : Q (.bl i) H := a.val E (by unfold den; rfl)
theorem Aft.str {i : Str} (E : ED C Y G σ H ρ) (a : Aft C Y G σ ρ (.val (.str i)) Q) : Q (.str i) H := a.val E (by unfold den; rfl)
theorem Aft.lst {xs : List D} {vs : List V} {p : Addr} (E : ED C Y G σ H ρ) (a : Aft C Y G σ ρ (.own (.lst xs)) Q) (hp : H p = none) (h : denL C.b G xs vs) : Q (.ref p) (upd H p (.lst vs)) := by
  obtain ⟨E3, od⟩ := OD.fresh (d := .lst xs) E hp (o := .lst vs) ⟨vs, upd_same, h⟩
  exact a _ _ _ Sub.rfl E3 od
theorem Aft.tup {xs : List D} {vs : List V} {p : Addr} (E : ED C Y G σ H ρ) (a : Aft C Y G σ ρ (.val (.tup xs)) Q) (hp : H p = none) (h : denL C.b G xs vs) : Q (.ref p) (upd H p (.tup vs)) := by
  have E3 := E.froze (o := .tup vs) hp
  have sg : Sub G (upd G p (.tup vs)) := Sub.new (E.gn hp)
  refine a _ _ _ sg E3 ?_
  unfold OD den
  exact ⟨p, vs, rfl, SqT.of upd_same, denL.mono sg _ _ h⟩
end

/-! ### + - * // % ** - -/
def addF : D → D → Option Opd
  | .int i, .int j => some (.val (.int (i + j)))
  | .str a, .str b => if a.length + b.length ≤ 16777216 then some (.val (.str (a ++ b))) else none
  | .lst a, .lst b => if a.length + b.length ≤ 16777216 then some (.own (.lst (a ++ b))) else none
  | .tup (x :: a), .tup b => if (x :: a).length + b.length ≤ 16777216 then some (.val (.tup (x :: a ++ b))) else none
  | _, _ => none
def subF : D → D → Option Opd
  | .int i, .int j => some (.val (.int (i - j)))
  | _, _ => none
def mulF : D → D → Option Opd
  | .int i, .int j => if i.natAbs.log2 + j.natAbs.log2 < 1000000 then some (.val (.int (i * j))) else none
  | _, _ => none
def divF : D → D → Option Opd
  | .int i, .int j => if 0 < j ∧ j.natAbs.log2 < 9000 then some (.val (.int (i / j))) else none
  | _, _ => none
def modF : D → D → Option Opd
  | .int i, .int j => if 0 < j then some (.val (.int (i % j))) else none
  | _, _ => none
def powF : D → D → Option Opd
  | .int i, .int j => if 0 ≤ j ∧ (i.natAbs.log2 + 1) * j.toNat ≤ 134217728 then some (.val (.int (i ^ j.toNat))) else none
  | _, _ => none
def negF : D → Option Opd
  | .int i => some (.val (.int (-i)))
  | _ => none
def rAddAll (K : PySem.W.Frag) : R2 := fun x y H Q => rI0 (fun i j => .int (i + j)) x y H Q ∨ (∃ i j, x = .str i ∧ y = .str j ∧ i.length + j.length ≤ sizeLine ∧ Q (.str (i ++ j)) H) ∨ rCat x y H Q ∨ rCatT K x y H Q
theorem op_addAll {X : Cx} : OpR X (binaryOp .Add) (rAddAll X.K) := OpR.or op_add (OpR.or op_add_str (OpR.or op_cat op_catT))
theorem addD {C : Cn} {K : PySem.W.Frag} (hK : C.b.K = K) : OpD C addF (rAddAll K) := by
  intro Y G σ H ρ Q x y dx dy o E hx hy hf af
  unfold addF at hf
  split at hf
  · cases hf
    exact .inl ⟨_, _, hx.int, hy.int, af.int E⟩
  · split at hf
    · rename_i hz
      cases hf
      exact .inr (.inl ⟨_, _, hx.str, hy.str, by rw [sz_eq]; exact hz, af.str E⟩)
    · cases hf
  · split at hf
    · rename_i hz
      cases hf
      obtain ⟨a, vs, rfl, h1, h2⟩ := hx.lst E.sub
      obtain ⟨b, ws, rfl, h3, h4⟩ := hy.lst E.sub
      have l1 := h2.len
      have l2 := h4.len
      exact .inr (.inr (.inl ⟨a, b, vs, ws, rfl, rfl, h1, h3, by rw [sz_eq]; omega, fun p hp => af.lst E hp (denL_iff.mpr (pd_app (denL_iff.mp h2) (denL_iff.mp h4)))⟩))
    · cases hf
  · split at hf
    · rename_i z zs ws hz
      cases hf
      obtain ⟨a, vs, rfl, h1, h2⟩ := hx.tup hK E.sub
      obtain ⟨b, us, rfl, h3, h4⟩ := hy.tup hK E.sub
      have l1 := h2.len
      have l2 := h4.len
      have ap := denL_iff.mpr (pd_app (denL_iff.mp h2) (denL_iff.mp h4))
      refine .inr (.inr (.inr ⟨a, b, vs, us, rfl, rfl, h1, h3, fun z => by rw [z] at l1; simp at l1, by rw [sz_eq]; omega, fun z => ?_, fun _ p hp => af.tup E hp ap⟩))
      subst z
      rw [List.append_nil] at ap
      rcases hx with hx | ⟨p, _, hx⟩
      · refine af.val E ?_
        unfold den at hx ⊢
        obtain ⟨a', vs', e1, e2, e3⟩ := hx
        cases ws with
        | nil => rw [List.append_nil]; exact ⟨a', vs', e1, e2, e3⟩
        | cons w ws => simp at l2
      · exact hx.elim
    · cases hf
  · cases hf
theorem subD {C : Cn} : OpD C subF (rI0 fun i j => .int (i - j)) := by
  intro Y G σ H ρ Q x y dx dy o E hx hy hf af
  unfold subF at hf
  split at hf
  · cases hf
    exact ⟨_, _, hx.int, hy.int, af.int E⟩
  · cases hf
theorem mulD {C : Cn} : OpD C mulF (rI CMulW fun i j => .int (i * j)) := by
  intro Y G σ H ρ Q x y dx dy o E hx hy hf af
  unfold mulF at hf
  split at hf
  · split at hf
    · rename_i hz
      cases hf
      exact ⟨_, _, hx.int, hy.int, hz, af.int E⟩
    · cases hf
  · cases hf
theorem divD {C : Cn} : OpD C divF (rI CDivW fun i j => .int (i / j)) := by
  intro Y G σ H ρ Q x y dx dy o E hx hy hf af
  unfold divF at hf
  split at hf
  · split at hf
    · rename_i hz
      cases hf
      exact ⟨_, _, hx.int, hy.int, hz, af.int E⟩
    · cases hf
  · cases hf
theorem modD {C : Cn} : OpD C modF (rI (fun _ j => 0 < j) fun i j => .int (i % j)) := by
  intro Y G σ H ρ Q x y dx dy o E hx hy hf af
  unfold modF at hf
  split at hf
  · split at hf
    · rename_i hz
      cases hf
      exact ⟨_, _, hx.int, hy.int, hz, af.int E⟩
    · cases hf
  · cases hf
theorem op_powB {X : Cx} : OpR X (binaryOp .Pow) (rI (fun i j => 0 ≤ j ∧ (i.natAbs.log2 + 1) * j.toNat ≤ 134217728) fun i j => .int (i ^ j.toNat)) := by
  intro pins s σ H x y v u Q I rx ry h
  obtain ⟨i, j, rfl, rfl, ⟨h0, hz⟩, q⟩ := h
  obtain ⟨t, rfl⟩ := rx
  obtain ⟨t', rfl⟩ := ry
  refine PyProof.Rows.pow_int h0 ?_ ⟨.int _, H, I.tok _, ⟨_, rfl⟩, q⟩
  have b : Builtin.Int.intBits i ≤ i.natAbs.log2 + 1 := by
    unfold Builtin.Int.intBits
    split <;> omega
  have e : ((j.toNat : Nat) : Int) = j := Int.toNat_of_nonneg h0
  have m : Builtin.Int.intBits i * j.toNat ≤ (i.natAbs.log2 + 1) * j.toNat := Nat.mul_le_mul_right _ b
  rw [← e]
  have : ((Builtin.Int.intBits i * j.toNat : Nat) : Int) ≤ 134217728 := by omega
  rw [Int.natCast_mul] at this
  simpa using this
theorem powD {C : Cn} : OpD C powF (rI (fun i j => 0 ≤ j ∧ (i.natAbs.log2 + 1) * j.toNat ≤ 134217728) fun i j => .int (i ^ j.toNat)) := by
  intro Y G σ H ρ Q x y dx dy o E hx hy hf af
  unfold powF at hf
  split at hf
  · split at hf
    · rename_i hz
      cases hf
      exact ⟨_, _, hx.int, hy.int, hz, af.int E⟩
    · cases hf
  · cases hf
theorem negD {C : Cn} : UnD C negF (rU fun i => .int (-i)) := by
  intro Y G σ H ρ Q x dx o E hx hf af
  unfold negF at hf
  split at hf
  · cases hf
    exact ⟨_, hx.int, af.int E⟩
  · cases hf

/-! ### comparisons -/
def ltF : D → D → Option Opd
  | .int i, .int j => some (.val (.bl (decide (i < j))))
  | _, _ => none
def leF : D → D → Option Opd
  | .int i, .int j => some (.val (.bl (decide (i ≤ j))))
  | _, _ => none
def gtF : D → D → Option Opd
  | .int i, .int j => some (.val (.bl (decide (j < i))))
  | _, _ => none
def geF : D → D → Option Opd
  | .int i, .int j => some (.val (.bl (decide (j ≤ i))))
  | _, _ => none
theorem cmpI {C : Cn} {F : D → D → Option Opd} {p : Int → Int → Bool} (hF : ∀ dx dy o, F dx dy = some o → ∃ i j, dx = .int i ∧ dy = .int j ∧ o = .val (.bl (p i j))) : OpD C F (rI0 fun i j => .bl (p i j)) := by
  intro Y G σ H ρ Q x y dx dy o E hx hy hf af
  obtain ⟨i, j, rfl, rfl, rfl⟩ := hF _ _ _ hf
  exact ⟨_, _, hx.int, hy.int, af.bl E⟩
theorem ltD {C : Cn} : OpD C ltF (rI0 fun i j => .bl (decide (i < j))) := cmpI fun dx dy o h => by
  unfold ltF at h
  split at h
  · cases h; exact ⟨_, _, rfl, rfl, rfl⟩
  · cases h
theorem leD {C : Cn} : OpD C leF (rI0 fun i j => .bl (decide (i ≤ j))) := cmpI fun dx dy o h => by
  unfold leF at h
  split at h
  · cases h; exact ⟨_, _, rfl, rfl, rfl⟩
  · cases h
theorem gtD {C : Cn} : OpD C gtF (rI0 fun i j => .bl (decide (j < i))) := cmpI fun dx dy o h => by
  unfold gtF at h
  split at h
  · cases h; exact ⟨_, _, rfl, rfl, rfl⟩
  · cases h
theorem geD {C : Cn} : OpD C geF (rI0 fun i j => .bl (decide (j ≤ i))) := cmpI fun dx dy o h => by
  unfold geF at h
  split at h
  · cases h; exact ⟨_, _, rfl, rfl, rfl⟩
  · cases h

/-! ### == of data -/
mutual
def toPy : D → Option PyData
  | .non => some .none
  | .bl b => some (.bool b)
  | .int i => some (.int i)
  | .str s => some (.str s)
  | .lst xs => (toPyL xs).map .list
  | .tup xs => (toPyL xs).map .tuple
  | .dK kvs => (toPyK kvs).map .dict
  | .exc _ _ => none
  | .scr _ => none
  | .obj _ _ => none
def toPyL : List D → Option (List PyData)
  | [] => some []
  | x :: xs => match toPy x, toPyL xs with
    | some p, some ps => some (p :: ps)
    | _, _ => none
def toPyK : List (Key × D) → Option (List (PyData × PyData))
  | [] => some []
  | (k, x) :: xs => match toPy x, toPyK xs with
    | some p, some ps => some (((match k with | .inl i => .int i | .inr s => .str s), p) :: ps)
    | _, _ => none
end
def eqB (d e : D) : Option Bool := match toPy d, toPy e with
  | some p, some q => if SeqAt.shaped p && SeqAt.shaped q then some (PyData.eqv p q) else none
  | _, _ => none
def eqF (d e : D) : Option Opd := (eqB d e).map fun b => .val (.bl b)
def neF (d e : D) : Option Opd := (eqB d e).map fun b => .val (.bl (!b))
section
variable {C : Cn} {G H : Hp} {K : PySem.W.Frag}
mutual
theorem dp_of (hK : C.b.K = K) (s : Sub G H) : ∀ (d : D) (v : V) (p : PyData), den C.b G d v → toPy d = some p → p.hasDict = false → Dp K H v p
  | .non, v, p, h, e, _ => by
    unfold den at h; unfold toPy at e; cases e; subst h; exact .non
  | .bl b, v, p, h, e, _ => by
    unfold den at h; unfold toPy at e; cases e; subst h; exact .bl b
  | .int b, v, p, h, e, _ => by
    unfold den at h; unfold toPy at e; cases e; subst h; exact .int b
  | .str b, v, p, h, e, _ => by
    unfold den at h; unfold toPy at e; cases e; subst h; exact .str b
  | .lst xs, v, p, h, e, hd => by
    unfold den at h
    unfold toPy at e
    obtain ⟨a, vs, rfl, h1, h2⟩ := h
    cases e1 : toPyL xs with
    | none => rw [e1] at e; cases e
    | some ps =>
      rw [e1] at e
      cases e
      exact .lst (SqL.of (s _ _ h1)) (dpL_of hK s xs vs ps h2 e1 hd)
  | .tup xs, v, p, h, e, hd => by
    unfold den at h
    unfold toPy at e
    obtain ⟨a, vs, rfl, h1, h2⟩ := h
    cases e1 : toPyL xs with
    | none => rw [e1] at e; cases e
    | some ps =>
      rw [e1] at e
      cases e
      exact .tup (by rw [← hK]; exact s.sqT h1) (dpL_of hK s xs vs ps h2 e1 hd)
  | .dK kvs, v, p, h, e, hd => by
    unfold toPy at e
    cases e1 : toPyK kvs with
    | none => rw [e1] at e; cases e
    | some ps => rw [e1] at e; cases e; cases hd
  | .exc _ _, v, p, h, e, _ => by unfold toPy at e; cases e
  | .scr _, v, p, h, e, _ => by unfold toPy at e; cases e
  | .obj _ _, v, p, h, e, _ => by unfold toPy at e; cases e
theorem dpL_of (hK : C.b.K = K) (s : Sub G H) : ∀ (d : List D) (v : List V) (p : List PyData), denL C.b G d v → toPyL d = some p → PyData.hasDictAll p = false → DpAll K H v p
  | [], v, p, h, e, _ => by
    unfold denL at h; unfold toPyL at e; cases e; subst h; exact .nil
  | d :: ds, v, p, h, e, hd => by
    unfold denL at h
    unfold toPyL at e
    obtain ⟨w, r, rfl, h1, h2⟩ := h
    cases e1 : toPy d with
    | none => rw [e1] at e; cases e
    | some q =>
      cases e2 : toPyL ds with
      | none => rw [e1, e2] at e; cases e
      | some qs =>
        rw [e1, e2] at e
        cases e
        unfold PyData.hasDictAll at hd
        obtain ⟨n1, n2⟩ := Bool.or_eq_false_iff.mp hd
        exact .cons (dp_of hK s d w q h1 e1 n1) (dpL_of hK s ds r qs h2 e2 n2)
end
theorem dv_dp (hK : C.b.K = K) (s : Sub G H) {d : D} {v : V} {p : PyData} (h : DV C.b G H d v) (e : toPy d = some p) (hd : p.hasDict = false) : Dp K H v p := by
  rcases h with h | ⟨q, rfl, h⟩
  · exact dp_of hK s d v p h e hd
  · cases d <;> simp only [ownAt] at h
    · obtain ⟨vs, h1, h2⟩ := h
      unfold toPy at e
      rename_i xs
      cases e1 : toPyL xs with
      | none => rw [e1] at e; cases e
      | some ps =>
        rw [e1] at e
        cases e
        exact .lst (SqL.of h1) (dpL_of hK s xs vs ps h2 e1 hd)
    · unfold toPy at e
      rename_i xs
      cases e1 : toPyK xs with
      | none => rw [e1] at e; cases e
      | some ps => rw [e1] at e; cases e; cases hd
theorem noDict_shaped {p : PyData} (h : SeqAt.shaped p = true) : p.hasDict = false := PyData.hasDict_of_canLay p (SeqAt.canLay_of_shaped h)
theorem eqB_some {d e : D} {b : Bool} (h : eqB d e = some b) : ∃ p q, toPy d = some p ∧ toPy e = some q ∧ SeqAt.shaped p = true ∧ SeqAt.shaped q = true ∧ b = PyData.eqv p q := by
  unfold eqB at h
  split at h
  · rename_i p q h1 h2
    split at h
    · rename_i hs
      cases h
      obtain ⟨s1, s2⟩ := Bool.and_eq_true_iff.mp hs
      exact ⟨p, q, h1, h2, s1, s2, rfl⟩
    · cases h
  · cases h
theorem eqD (hK : C.b.K = K) : OpD C eqF (rEqD K) := by
  intro Y G σ H ρ Q x y dx dy o E hx hy hf af
  unfold eqF at hf
  cases hb : eqB dx dy with
  | none => rw [hb] at hf; cases hf
  | some b =>
    rw [hb] at hf
    cases hf
    obtain ⟨p, q, h1, h2, s1, s2, rfl⟩ := eqB_some hb
    exact ⟨p, q, dv_dp hK E.sub hx h1 (noDict_shaped s1), dv_dp hK E.sub hy h2 (noDict_shaped s2), s1, s2, af.bl E⟩
theorem neD (hK : C.b.K = K) : OpD C neF (rNeD K) := by
  intro Y G σ H ρ Q x y dx dy o E hx hy hf af
  unfold neF at hf
  cases hb : eqB dx dy with
  | none => rw [hb] at hf; cases hf
  | some b =>
    rw [hb] at hf
    cases hf
    obtain ⟨p, q, h1, h2, s1, s2, rfl⟩ := eqB_some hb
    exact ⟨p, q, dv_dp hK E.sub hx h1 (noDict_shaped s1), dv_dp hK E.sub hy h2 (noDict_shaped s2), s1, s2, af.bl E⟩
end

/-! ### is None -/
def isNb : D → Bool
  | .non => true
  | _ => false
def isNF : D → Option Opd := fun d => some (.val (.bl (isNb d)))
def notNF : D → Option Opd := fun d => some (.val (.bl (!isNb d)))
theorem dv_non {C : Cn} {G H : Hp} {d : D} {v : V} (h : DV C.b G H d v) : decide (v = .non) = isNb d := by
  rcases h with h | ⟨p, rfl, h⟩
  · cases d <;> unfold den at h
    case non => subst h; rfl
    case bl => subst h; rfl
    case int => subst h; rfl
    case str => subst h; rfl
    case lst => obtain ⟨a, vs, rfl, _⟩ := h; rfl
    case tup => obtain ⟨a, vs, rfl, _⟩ := h; rfl
    case dK => obtain ⟨a, vs, rfl, _⟩ := h; rfl
    case exc => obtain ⟨a, dx, T, u, rfl, _⟩ := h; rfl
    case scr => obtain ⟨a, rfl, _⟩ := h; rfl
    case obj => obtain ⟨a, dx, T, us, rfl, _⟩ := h; rfl
  · cases d <;> simp only [ownAt] at h <;> rfl
section
variable {X : Cx} {C : Cn} {W : WX} {a : Expr} {f : M Opd} {pos : Pos}
theorem de_isN {j pos'} (ha : PE X a (tE C W f)) : PE X (.Compare a [.Is] [.Constant .none j pos'] pos) (tE C W (e1 f isNF)) := by
  refine PE.st (pe_cmp (pc_isN ha)) fun σ H Q q => ?_
  obtain ⟨Y, G, ρ, E, p⟩ := q
  refine seq1 Post.lk E p fun G1 H1 ρ1 o1 v1 s1 pl1 E1 od1 p1 => ?_
  unfold fin1 at p1
  cases l : look o1 ρ1 with
  | none => rw [l] at p1; exact p1.elim
  | some d =>
    rw [l] at p1
    rw [dv_non (look_ok E1 od1 l)]
    exact p1 G1 H1 _ Sub.rfl E1 (by unfold OD den; rfl)
theorem de_notN {j pos'} (ha : PE X a (tE C W f)) : PE X (.Compare a [.IsNot] [.Constant .none j pos'] pos) (tE C W (e1 f notNF)) := by
  refine PE.st (pe_cmp (pc_notN ha)) fun σ H Q q => ?_
  obtain ⟨Y, G, ρ, E, p⟩ := q
  refine seq1 Post.lk E p fun G1 H1 ρ1 o1 v1 s1 pl1 E1 od1 p1 => ?_
  unfold fin1 at p1
  cases l : look o1 ρ1 with
  | none => rw [l] at p1; exact p1.elim
  | some d =>
    rw [l] at p1
    rw [dv_non (look_ok E1 od1 l)]
    exact p1 G1 H1 _ Sub.rfl E1 (by unfold OD den; rfl)
theorem dt_isN {j pos'} (ha : PE X a (tE C W f)) : PT X (.Compare a [.Is] [.Constant .none j pos'] pos) (tT C W (tV (e1 f isNF))) := by
  refine PT.st (pt_cmp (pc_isN ha)) fun σ H Q h => ?_
  obtain ⟨Y, G, ρ, E, p⟩ := tB_of h
  refine seq1 Post.lk E p fun G1 H1 ρ1 o1 v1 s1 pl1 E1 od1 p1 => ?_
  unfold fin1 at p1
  cases l : look o1 ρ1 with
  | none => rw [l] at p1; exact p1.elim
  | some d =>
    rw [l] at p1
    rw [dv_non (look_ok E1 od1 l)]
    exact p1 G1 H1 _ Sub.rfl E1 (by unfold OD den; rfl)
theorem dt_notN {j pos'} (ha : PE X a (tE C W f)) : PT X (.Compare a [.IsNot] [.Constant .none j pos'] pos) (tT C W (tV (e1 f notNF))) := by
  refine PT.st (pt_cmp (pc_notN ha)) fun σ H Q h => ?_
  obtain ⟨Y, G, ρ, E, p⟩ := tB_of h
  refine seq1 Post.lk E p fun G1 H1 ρ1 o1 v1 s1 pl1 E1 od1 p1 => ?_
  unfold fin1 at p1
  cases l : look o1 ρ1 with
  | none => rw [l] at p1; exact p1.elim
  | some d =>
    rw [l] at p1
    rw [dv_non (look_ok E1 od1 l)]
    exact p1 G1 H1 _ Sub.rfl E1 (by unfold OD den; rfl)
end

/-! ### items -/
def ixF : D → D → Option Opd
  | .lst xs, .int i => (atI xs i).map .val
  | .tup xs, .int i => (atI xs i).map .val
  | .scr xs, .int i => (atI xs i).map fun n => .val (.int n)
  | .str z, .int i => if z.length ≤ 16777216 then (atI z.cps.toList i).map fun c => .val (.str ⟨#[c]⟩) else none
  | _, _ => none
theorem atI_pd {α β : Type} {F : α → β → Prop} {xs : List α} {ys : List β} {i : Int} {x : α} (p : Paired F xs ys) (h : atI xs i = some x) : ∃ y, atI ys i = some y ∧ F x y := by
  unfold atI at h ⊢
  rw [← p.length]
  cases e : ixN xs.length i with
  | none => rw [e] at h; cases h
  | some j =>
    rw [e] at h
    exact pd_get (i := j) p h
theorem ixD {C : Cn} {K : PySem.W.Frag} (hK : C.b.K = K) : OpD C ixF (rIx K) := by
  intro Y G σ H ρ Q x y dx dy o E hx hy hf af
  unfold ixF at hf
  split at hf
  · rename_i xs i
    cases e : atI xs i with
    | none => rw [e] at hf; cases hf
    | some d =>
      rw [e] at hf; cases hf
      obtain ⟨a, vs, rfl, h1, h2⟩ := hx.lst E.sub
      obtain ⟨w, w1, w2⟩ := atI_pd (denL_iff.mp h2) e
      exact .inl ⟨a, vs, i, w, rfl, hy.int, SqL.of h1, w1, af.val E w2⟩
  · rename_i xs i
    cases e : atI xs i with
    | none => rw [e] at hf; cases hf
    | some d =>
      rw [e] at hf; cases hf
      obtain ⟨a, vs, rfl, h1, h2⟩ := hx.tup hK E.sub
      obtain ⟨w, w1, w2⟩ := atI_pd (denL_iff.mp h2) e
      exact .inr (.inl ⟨a, vs, i, w, rfl, hy.int, h1, w1, af.val E w2⟩)
  · rename_i xs i
    cases e : atI xs i with
    | none => rw [e] at hf; cases hf
    | some d =>
      rw [e] at hf; cases hf
      obtain ⟨a, rfl, h1⟩ := hx.scr hK E.sub
      have p : Paired (fun (n : Int) (v : V) => v = .int n) xs (xs.map V.int) := by
        clear hx h1 e af
        induction xs with
        | nil => exact .nil
        | cons z zs ih => exact .cons rfl ih
      obtain ⟨w, w1, w2⟩ := atI_pd p e
      subst w2
      exact .inl ⟨a, _, i, _, rfl, hy.int, h1, w1, af.int E⟩
  · rename_i z i
    split at hf
    · rename_i hz
      cases e : atI z.cps.toList i with
      | none => rw [e] at hf; cases hf
      | some c =>
        rw [e] at hf; cases hf
        exact .inr (.inr ⟨z, i, c, hx.str, hy.int, by rw [sz_eq]; exact hz, e, af.str E⟩)
    · cases hf
  · cases hf
theorem de_ix {X : Cx} {C : Cn} {W : WX} {a b : Expr} {f g : M Opd} {pos : Pos} (hK : C.b.K = X.K) (ha : PE X a (tE C W f)) (hb : PE X b (tE C W g)) (hs : PlainIx b := by intro _ _; rfl) : PE X (.Subscript a b pos) (tE C W (e2 f g ixF)) :=
  PE.st (pe_ix ix_seq ha hb hs) fun _ _ _ h => tOp_of (ixD hK) h
end DL

set_option Elab.async false
set_option linter.all false
set_option maxRecDepth 100000
/-! The data layer: calls of built-in functions and types. -/
namespace DL
open PySem PySem.Spec L2
open PyProof.Rows hiding St

def looks : List Opd → DEnv → Option (List D)
  | [], _ => some []
  | o :: os, ρ => match look o ρ, looks os ρ with
    | some d, some ds => some (d :: ds)
    | _, _ => none
def finB (F : List D → Option Opd) (os : List Opd) (ρ : DEnv) : R Opd := match looks os ρ with
  | some ds => match F ds with
    | some o => .ok o ρ
    | none => .bad
  | none => .bad
def eB (fs : List (M Opd)) (F : List D → Option Opd) : M Opd := fun ρ => (eA fs ρ).bind fun os ρ1 => finB F os ρ1
def CallD (C : Cn) (F : List D → Option Opd) (r : List V → Hp → VK → Prop) : Prop := ∀ {Y : Gr} {G : Hp} {σ : St} {H : Hp} {ρ : DEnv} {Q : VK} {xs : List V} {ds : List D} {o : Opd}, ED C Y G σ H ρ → Paired (DV C.b G H) ds xs → F ds = some o → Aft C Y G σ ρ o Q → r xs H Q
section
variable {C : Cn} {Y : Gr} {G H : Hp} {σ : St} {ρ : DEnv}
theorem looks_ok (E : ED C Y G σ H ρ) : ∀ {os : List Opd} {vs : List V} {ds : List D}, allOD C Y G σ H ρ os vs → looks os ρ = some ds → Paired (DV C.b G H) ds vs
  | [], vs, ds, h, e => by
    cases e
    have : vs = [] := h
    subst this
    exact .nil
  | o :: os, vs, ds, h, e => by
    obtain ⟨v, r, rfl, h1, h2⟩ := h
    unfold looks at e
    cases e1 : look o ρ with
    | none => rw [e1] at e; cases e
    | some d =>
      cases e2 : looks os ρ with
      | none => rw [e1, e2] at e; cases e
      | some ds' =>
        rw [e1, e2] at e
        cases e
        exact .cons (look_ok E h1 e1) (looks_ok E h2 e2)
end
section
variable {X : Cx} {C : Cn} {W : WX} {e : Expr} {es : List Expr} {f : M Opd} {fs : List (M Opd)} {F : List D → Option Opd} {r : List V → Hp → VK → Prop} {x : Str} {id T : String} {p pos : Pos}
theorem tCB_of (hF : CallD C F r) {σ : St} {H : Hp} {Q : VK} (h : tE C W (eB fs F) σ H Q) : tCB r (tA C W (eA fs)) σ H Q := by
  obtain ⟨Y, G, ρ, E, q⟩ := h
  refine seqAp (C := C) Post.lk E q fun G1 H1 ρ1 os vs s1 pl E1 ods p1 => ?_
  unfold finB at p1
  cases l : looks os ρ1 with
  | none => rw [l] at p1; exact p1.elim
  | some ds =>
    rw [l] at p1
    dsimp only at p1
    cases hf : F ds with
    | none => rw [hf] at p1; exact p1.elim
    | some o => rw [hf] at p1; exact hF E1 (looks_ok E1 ods l) hf p1
theorem de_callB (hc : CallR X (.builtin id) r) (hF : CallD C F r) (hg : Gl X x) (hm : X.mg x = none) (hv : bootBuiltins x = some (.builtin id)) (ha : PA X (e :: es) (tA C W (eA fs))) (hn : x ≠ "__name__" := by decide) (hdb : (x == ("__debug__" : Str)) = false := by decide)
    (he : starEach (e :: es) X.env = (false, eval e X.env) :: starEach es X.env := by rfl) (hpl : (backTo pos (starEach es X.env)).any (·.1) = false := by rfl) : PE X (.Call (.Name x p) (e :: es) [] pos) (tE C W (eB fs F)) :=
  PE.st (pe_callB hc hg hm hv ha hn hdb he hpl) fun _ _ _ h => tCB_of hF h
theorem de_callTy (hc : CallR X (.type T) r) (hF : CallD C F r) (hg : Gl X x) (hm : X.mg x = none) (hv : bootBuiltins x = some (.type T)) (ha : PA X (e :: es) (tA C W (eA fs))) (hn : x ≠ "__name__" := by decide) (hdb : (x == ("__debug__" : Str)) = false := by decide)
    (he : starEach (e :: es) X.env = (false, eval e X.env) :: starEach es X.env := by rfl) (hpl : (backTo pos (starEach es X.env)).any (·.1) = false := by rfl) : PE X (.Call (.Name x p) (e :: es) [] pos) (tE C W (eB fs F)) :=
  PE.st (pe_callTy hc hg hm hv ha hn hdb he hpl) fun _ _ _ h => tCB_of hF h
end

/-! ### len, int, abs, max, min, str, list, tuple, any, all, sum -/
def lenF : List D → Option Opd
  | [.lst xs] => some (.val (.int xs.length))
  | [.tup xs] => some (.val (.int xs.length))
  | [.scr xs] => some (.val (.int xs.length))
  | [.str z] => if z.length ≤ 16777216 then some (.val (.int z.length)) else none
  | [.dK xs] => none
  | _ => none
def intF : List D → Option Opd
  | [.int i] => some (.val (.int i))
  | [.bl b] => some (.val (.int (if b then 1 else 0)))
  | _ => none
def absF : List D → Option Opd
  | [.int i] => some (.val (.int (if i < 0 then -i else i)))
  | _ => none
def maxF : List D → Option Opd
  | [.int i, .int j] => some (.val (.int (if j > i then j else i)))
  | _ => none
def minF : List D → Option Opd
  | [.int i, .int j] => some (.val (.int (if j < i then j else i)))
  | _ => none
def strF : List D → Option Opd
  | [.int i] => if i.natAbs.log2 < 1920 then some (.val (.str (toString i))) else none
  | _ => none
def listF : List D → Option Opd
  | [.lst xs] => some (.own (.lst xs))
  | [.tup xs] => some (.own (.lst xs))
  | _ => none
def tupleF : List D → Option Opd
  | [.lst xs] => some (.val (.tup xs))
  | [.tup xs] => some (.val (.tup xs))
  | _ => none
def asBl : List D → Option (List Bool)
  | [] => some []
  | .bl b :: r => (asBl r).map (b :: ·)
  | _ => none
def asInt : List D → Option (List Int)
  | [] => some []
  | .int b :: r => (asInt r).map (b :: ·)
  | _ => none
def anyF : List D → Option Opd
  | [.lst xs] => (asBl xs).map fun bs => .val (.bl (bs.any id))
  | _ => none
def allF : List D → Option Opd
  | [.lst xs] => (asBl xs).map fun bs => .val (.bl (bs.all id))
  | _ => none
def sumF : List D → Option Opd
  | [.lst xs] => (asInt xs).map fun bs => .val (.int bs.sum)
  | _ => none
section
variable {C : Cn} {G H : Hp} {K : PySem.W.Frag}
theorem pd1 {α β : Type} {F : α → β → Prop} {x : α} {ys : List β} (h : Paired F [x] ys) : ∃ y, ys = [y] ∧ F x y := by
  cases h with | cons a b => cases b; exact ⟨_, rfl, a⟩
theorem pd2 {α β : Type} {F : α → β → Prop} {x x' : α} {ys : List β} (h : Paired F [x, x'] ys) : ∃ y y', ys = [y, y'] ∧ F x y ∧ F x' y' := by
  cases h with | cons a b => cases b with | cons c d => cases d; exact ⟨_, _, rfl, a, c⟩
theorem asBl_den : ∀ {xs : List D} {bs : List Bool} {vs : List V}, asBl xs = some bs → denL C.b G xs vs → vs = bs.map V.bl
  | [], bs, vs, e, h => by cases e; unfold denL at h; exact h
  | x :: xs, bs, vs, e, h => by
    unfold denL at h
    obtain ⟨v, r, rfl, h1, h2⟩ := h
    cases x with
    | bl b =>
      unfold asBl at e
      cases e1 : asBl xs with
      | none => rw [e1] at e; cases e
      | some bs' =>
        rw [e1] at e; cases e
        rw [asBl_den e1 h2]
        unfold den at h1
        rw [h1]; rfl
    | _ => cases e
theorem asInt_den : ∀ {xs : List D} {bs : List Int} {vs : List V}, asInt xs = some bs → denL C.b G xs vs → vs = bs.map V.int
  | [], bs, vs, e, h => by cases e; unfold denL at h; exact h
  | x :: xs, bs, vs, e, h => by
    unfold denL at h
    obtain ⟨v, r, rfl, h1, h2⟩ := h
    cases x with
    | int b =>
      unfold asInt at e
      cases e1 : asInt xs with
      | none => rw [e1] at e; cases e
      | some bs' =>
        rw [e1] at e; cases e
        rw [asInt_den e1 h2]
        unfold den at h1
        rw [h1]; rfl
    | _ => cases e
theorem lenD (hK : C.b.K = K) : CallD C lenF (fun xs H Q => ∃ x n, xs = [x] ∧ LenV K x H n ∧ Q (.int n) H) := by
  intro Y G σ H ρ Q xs ds o E p hf af
  unfold lenF at hf
  split at hf
  · cases hf
    obtain ⟨v, rfl, h⟩ := pd1 p
    obtain ⟨a, vs, rfl, h1, h2⟩ := h.lst E.sub
    exact ⟨_, _, rfl, .inl ⟨vs, SqL.of h1, rfl⟩, by rw [← h2.len]; exact af.int E⟩
  · cases hf
    obtain ⟨v, rfl, h⟩ := pd1 p
    obtain ⟨a, vs, rfl, h1, h2⟩ := h.tup hK E.sub
    exact ⟨_, _, rfl, .inr ⟨vs, h1, rfl⟩, by rw [← h2.len]; exact af.int E⟩
  · cases hf
    obtain ⟨v, rfl, h⟩ := pd1 p
    obtain ⟨a, rfl, h1⟩ := h.scr hK E.sub
    exact ⟨_, _, rfl, .inl ⟨_, h1, rfl⟩, by rw [List.length_map]; exact af.int E⟩
  · split at hf
    · rename_i z hz
      cases hf
      obtain ⟨v, rfl, h⟩ := pd1 p
      rw [h.str]
      exact ⟨_, _, rfl, ⟨by rw [sz_eq]; exact hz, rfl⟩, af.int E⟩
    · cases hf
  · cases hf
  · cases hf
theorem intD : CallD C intF (fun xs H Q => (∃ i, xs = [.int i] ∧ Q (.int i) H) ∨ ∃ k, xs = [.bl k] ∧ Q (.int (if k then 1 else 0)) H) := by
  intro Y G σ H ρ Q xs ds o E p hf af
  unfold intF at hf
  split at hf
  · cases hf
    obtain ⟨v, rfl, h⟩ := pd1 p
    exact .inl ⟨_, by rw [h.int], af.int E⟩
  · cases hf
    obtain ⟨v, rfl, h⟩ := pd1 p
    exact .inr ⟨_, by rw [h.bl], af.int E⟩
  · cases hf
theorem absD : CallD C absF (fun xs H Q => ∃ i, xs = [.int i] ∧ Q (.int (if i < 0 then -i else i)) H) := by
  intro Y G σ H ρ Q xs ds o E p hf af
  unfold absF at hf
  split at hf
  · cases hf
    obtain ⟨v, rfl, h⟩ := pd1 p
    exact ⟨_, by rw [h.int], af.int E⟩
  · cases hf
theorem maxD : CallD C maxF (fun xs H Q => ∃ i j, xs = [.int i, .int j] ∧ Q (.int (if j > i then j else i)) H) := by
  intro Y G σ H ρ Q xs ds o E p hf af
  unfold maxF at hf
  split at hf
  · cases hf
    obtain ⟨v, v', rfl, h, h'⟩ := pd2 p
    exact ⟨_, _, by rw [h.int, h'.int], af.int E⟩
  · cases hf
theorem minD : CallD C minF (fun xs H Q => ∃ i j, xs = [.int i, .int j] ∧ Q (.int (if j < i then j else i)) H) := by
  intro Y G σ H ρ Q xs ds o E p hf af
  unfold minF at hf
  split at hf
  · cases hf
    obtain ⟨v, v', rfl, h, h'⟩ := pd2 p
    exact ⟨_, _, by rw [h.int, h'.int], af.int E⟩
  · cases hf
theorem strD : CallD C strF (fun xs H Q => ∃ i, xs = [.int i] ∧ i.natAbs.log2 < 1920 ∧ Q (.str (toString i)) H) := by
  intro Y G σ H ρ Q xs ds o E p hf af
  unfold strF at hf
  split at hf
  · split at hf
    · rename_i hz
      cases hf
      obtain ⟨v, rfl, h⟩ := pd1 p
      exact ⟨_, by rw [h.int], hz, af.str E⟩
    · cases hf
  · cases hf
theorem listD (hK : C.b.K = K) : CallD C listF (fun xs H Q => ∃ p ys, xs = [.ref p] ∧ (SqL K H p ys ∨ SqT K H p ys) ∧ ∀ l, H l = none → Q (.ref l) (upd H l (.lst ys))) := by
  intro Y G σ H ρ Q xs ds o E p hf af
  unfold listF at hf
  split at hf
  · cases hf
    obtain ⟨v, rfl, h⟩ := pd1 p
    obtain ⟨a, vs, rfl, h1, h2⟩ := h.lst E.sub
    exact ⟨a, vs, rfl, .inl (SqL.of h1), fun l hl => af.lst E hl h2⟩
  · cases hf
    obtain ⟨v, rfl, h⟩ := pd1 p
    obtain ⟨a, vs, rfl, h1, h2⟩ := h.tup hK E.sub
    exact ⟨a, vs, rfl, .inr h1, fun l hl => af.lst E hl h2⟩
  · cases hf
theorem tupleD (hK : C.b.K = K) : CallD C tupleF (fun xs H Q => ∃ p ys, xs = [.ref p] ∧ ((SqL K H p ys ∧ ∀ l, H l = none → Q (.ref l) (upd H l (.tup ys))) ∨ (SqT K H p ys ∧ Q (.ref p) H))) := by
  intro Y G σ H ρ Q xs ds o E p hf af
  unfold tupleF at hf
  split at hf
  · cases hf
    obtain ⟨v, rfl, h⟩ := pd1 p
    obtain ⟨a, vs, rfl, h1, h2⟩ := h.lst E.sub
    exact ⟨a, vs, rfl, .inl ⟨SqL.of h1, fun l hl => af.tup E hl h2⟩⟩
  · cases hf
    obtain ⟨v, rfl, h⟩ := pd1 p
    rcases h with h | ⟨q, _, h⟩
    · have h' := h
      unfold den at h'
      obtain ⟨a, vs, rfl, h1, h2⟩ := h'
      exact ⟨a, vs, rfl, .inr ⟨by rw [← hK]; exact E.sub.sqT h1, af.val E h⟩⟩
    · exact h.elim
  · cases hf
theorem anyD (hK : C.b.K = K) : CallD C anyF (rAny K) := by
  intro Y G σ H ρ Q xs ds o E p hf af
  unfold anyF at hf
  split at hf
  · rename_i ys
    cases e : asBl ys with
    | none => rw [e] at hf; cases hf
    | some bs =>
      rw [e] at hf; cases hf
      obtain ⟨v, rfl, h⟩ := pd1 p
      obtain ⟨a, vs, rfl, h1, h2⟩ := h.lst E.sub
      rw [asBl_den e h2] at h1
      exact ⟨a, bs, rfl, SqL.of h1, af.bl E⟩
  · cases hf
theorem allD (hK : C.b.K = K) : CallD C allF (rAll K) := by
  intro Y G σ H ρ Q xs ds o E p hf af
  unfold allF at hf
  split at hf
  · rename_i ys
    cases e : asBl ys with
    | none => rw [e] at hf; cases hf
    | some bs =>
      rw [e] at hf; cases hf
      obtain ⟨v, rfl, h⟩ := pd1 p
      obtain ⟨a, vs, rfl, h1, h2⟩ := h.lst E.sub
      rw [asBl_den e h2] at h1
      exact ⟨a, bs, rfl, SqL.of h1, af.bl E⟩
  · cases hf
theorem sumD (hK : C.b.K = K) : CallD C sumF (rSum K) := by
  intro Y G σ H ρ Q xs ds o E p hf af
  unfold sumF at hf
  split at hf
  · rename_i ys
    cases e : asInt ys with
    | none => rw [e] at hf; cases hf
    | some bs =>
      rw [e] at hf; cases hf
      obtain ⟨v, rfl, h⟩ := pd1 p
      obtain ⟨a, vs, rfl, h1, h2⟩ := h.lst E.sub
      rw [asInt_den e h2] at h1
      exact ⟨a, bs, rfl, SqL.of h1, af.int E⟩
  · cases hf
end
end DL

set_option Elab.async false
set_option linter.all false
set_option maxRecDepth 100000
set_option maxHeartbeats 2000000
/-! An own error whose __init__ says super().__init__(value) and keeps value: made, read, asked for its class. -/
namespace DL
open PySem PySem.Spec L2 PySem.W PySem.Calls HandSPX
open PyProof.Rows hiding St

def heA (p1 p2 : Pos) : Arguments := { posonlyargs := [], args := [{ arg := "self", annotation := none, pos := p1 }, { arg := "value", annotation := none, pos := p2 }], vararg := none, kwonlyargs := [], kw_defaults := [], kwarg := none, defaults := [] }
def heB : List Stmt :=
  [.Expr (.Call (.Attribute (.Call (.Name "super" ⟨5, 8, 5, 13⟩) [] [] ⟨5, 8, 5, 15⟩) "__init__" ⟨5, 8, 5, 24⟩) [.Name "value" ⟨5, 25, 5, 30⟩] [] ⟨5, 8, 5, 31⟩) ⟨5, 8, 5, 31⟩,
    .Assign [.Attribute (.Name "self" ⟨6, 8, 6, 12⟩) "value" ⟨6, 8, 6, 18⟩] (.Name "value" ⟨6, 21, 6, 26⟩) ⟨6, 8, 6, 26⟩]
def heS : Scope := { kind := .function, names := [(PySem.Str.ofString "self", .local), (PySem.Str.ofString "value", .local), (PySem.Str.ofString "__class__", .free), (PySem.Str.ofString "super", .globalImplicit)], isGenerator := false, isCoroutine := false, more := [] }

/-- what the written part says of HomeError, at B, and of its __init__ -/
structure BaseT (p : Program) (K : Frag) (mg : Str → Option Value) (B fI cc cda : Addr) : Prop where
  clB : ∃ cd, clsIn K B = some cd
  tF : typeIn K (.ref fI) = some (.type "function")
  opq : nsIn K cStatics "thirdparty.any" = some none
  sup : mg "super" = none
  main : (p.main.scope.names.lookup ("super" : Str)).isSome = false
  fn : ∃ (oc : Value) (od : Option Addr) (kV doc pm : Value) (an : Option Addr) (ct : Value) (osl : Array (Option Value)) (p1 p2 : Pos),
    K.lookup fI = some ⟨oc, od, .func (ksFn "__init__" "HomeError.__init__" (heA p1 p2) heB heS .none kV doc pm an (.ref cda) ct cc), osl⟩ ∧ codeIn K (.ref cda) "HomeError.__init__" = true
  code : ∃ (cl : Value) (cdd : Option Addr) (vs : Array Value) (sl : Array (Option Value)) (file : Str) (tf : Tok), K.lookup cda = some ⟨cl, cdd, .fields vs, sl⟩ ∧ vs[2]? = some (.str file tf) ∧ ((p.main.file : Str) == file) = true
  cell : ∃ (cl : Value) (cld : Option Addr) (sl : Array (Option Value)), K.lookup cc = some ⟨cl, cld, .cell (some (.ref B)), sl⟩
/-- .. of the class of errors called c, at T -/
structure ErrT (K : Frag) (B fI : Addr) (c : Str) (T : Addr) : Prop where
  cls : ∃ q N bs sn sub ab col dd k0 k1 k2 k3 k5, K.lookup T = some (excClassObj c q T N bs (if c = "HomeError" then veTail else .ref B :: veTail) true sn sub ab col dd k0 k1 k2 k3 k5 "ValueError.__new__")
  base : c = "HomeError" → T = B
  sa : findIn K (.ref T) "__setattr__" = some (some (.builtin "object.__setattr__"))
  ga : findIn K (.ref T) "__getattribute__" = some (some (.builtin "BaseException.__getattribute__"))
  gg : findIn K (.ref T) "__getattr__" = some none
  nv : findIn K (.ref T) "value" = some none
  ini : findIn K (.ref T) "__init__" = some (some (.ref fI))
  ca : findIn K (.ref T) "__class__" = some (some (.builtin "object.__class__"))
  kp : keepIn K (.ref T) = true
/-- HomeError stands at B -/
def IsBase (K : Frag) (B : Addr) : Prop := ∃ q N bs bm sn sub ab col dd k0 k1 k2 k3 k5, K.lookup B = some (excClassObj "HomeError" q B N bs bm true sn sub ab col dd k0 k1 k2 k3 k5 "ValueError.__new__")
section
variable {K : Frag} {B fI T U : Addr} {c d : Str}
theorem ErrT.cd (t : ErrT K B fI c T) : ∃ q N bs sn sub ab col, clsIn K T = some { name := c, bases := bs, mro := .ref T :: (if c = "HomeError" then veTail else .ref B :: veTail), ns := N, qualname := q, hasDict := true, slotNames := sn, subclasses := sub, abstract := ab, collection := col, hasDel := false } := by
  obtain ⟨q, N, bs, sn, sub, ab, col, dd, k0, k1, k2, k3, k5, h⟩ := t.cls
  exact ⟨q, N, bs, sn, sub, ab, col, by unfold clsIn; rw [h] <;> rfl⟩
theorem ErrT.ty (t : ErrT K B fI c T) : typeIn K (.ref T) = some (.type "type") := by
  obtain ⟨q, N, bs, sn, sub, ab, col, dd, k0, k1, k2, k3, k5, h⟩ := t.cls
  show (K.lookup T).map (·.cls) = _
  rw [h] <;> rfl
theorem ErrT.ve (t : ErrT K B fI c T) : refsVE (if c = "HomeError" then veTail else .ref B :: veTail) = true := by
  split
  · decide +kernel
  · show refsVE veTail = true
    decide +kernel
theorem ErrT.hd (t : ErrT K B fI c T) : hasDictIn K T = true := by
  obtain ⟨q, N, bs, sn, sub, ab, col, h⟩ := t.cd
  unfold hasDictIn; rw [h] <;> rfl
theorem ErrT.mro (t : ErrT K B fI c T) (x : Value) : mroIn K T x = some ((Value.ref T :: (if c = "HomeError" then veTail else .ref B :: veTail)).contains x) := by
  obtain ⟨q, N, bs, sn, sub, ab, col, h⟩ := t.cd
  unfold mroIn; rw [h] <;> rfl
theorem ErrT.mrT (t : ErrT K B fI c T) (X : String) : mroIn K T (.type X) = some (veTail.contains (.type X)) := by
  rw [t.mro, refsVE_contains X _ (show refsVE (Value.ref T :: _) = true from t.ve)]
theorem ErrT.exB (t : ErrT K B fI c T) : subIn K (.ref T) (.type "BaseException") = some true := (t.mrT _).trans (by decide +kernel)
theorem ErrT.veB (t : ErrT K B fI c T) : subIn K (.ref T) (.type "ValueError") = some true := (t.mrT _).trans (by decide +kernel)
theorem ErrT.mrO (t : ErrT K B fI c T) : mroIn K T (.type "object") = some true := (t.mrT _).trans (by decide +kernel)
theorem ErrT.mrB (t : ErrT K B fI c T) : mroIn K T (.ref B) = some true := by
  rw [t.mro]
  split
  · rename_i h; rw [t.base h]; simp
  · simp
/-- the names tell the classes apart -/
theorem ErrT.ne (t : ErrT K B fI c T) (u : ErrT K B fI d U) (h : c ≠ d) : T ≠ U := by
  intro e
  subst e
  obtain ⟨q, N, bs, sn, sub, ab, col, h1⟩ := t.cd
  obtain ⟨q', N', bs', sn', sub', ab', col', h2⟩ := u.cd
  rw [h1] at h2
  injection h2 with h2
  injection h2 with h2
  exact h h2
theorem ErrT.neB (t : ErrT K B fI c T) (b : IsBase K B) (h : c ≠ "HomeError") : T ≠ B := by
  intro e
  subst e
  obtain ⟨q, N, bs, sn, sub, ab, col, h1⟩ := t.cd
  obtain ⟨q', N', bs', bm', sn', sub', ab', col', dd, k0, k1, k2, k3, k5, h2⟩ := b
  unfold clsIn at h1
  rw [h2] at h1
  injection h1 with h1
  injection h1 with h1
  exact h h1.symm
theorem ErrT.sup (t : ErrT K B fI c T) (b : IsBase K B) : ks_superIn K T B "__init__" = some (some (.builtin "ValueError.__init__")) := by
  obtain ⟨q, N, bs, sn, sub, ab, col, h⟩ := t.cd
  unfold ks_superIn
  rw [h]
  show alongIn K "__init__" (((Value.ref T :: (if c = "HomeError" then veTail else .ref B :: veTail)).dropWhile (· != .ref B)).drop 1) = _
  have e : ((Value.ref T :: (if c = "HomeError" then veTail else .ref B :: veTail)).dropWhile (· != .ref B)).drop 1 = veTail := by
    by_cases hc : c = "HomeError"
    · rw [if_pos hc, t.base hc]
      simp [List.dropWhile_cons]
    · rw [if_neg hc]
      have := t.neB b hc
      simp [List.dropWhile_cons, this]
  rw [e]
  kernel_rfl
/-- isinstance between two classes of errors -/
theorem ErrT.kit (t : ErrT K B fI c T) (u : ErrT K B fI d U) (b : IsBase K B) (hcd : c = d → T = U) : kitOne K (.ref T) (.ref U) = some (decide (c = d) || decide (d = "HomeError")) := by
  unfold kitOne
  by_cases h : T = U
  · subst h
    have : c = d := Classical.byContradiction fun h => t.ne u h rfl
    simp [this]
  · have hc : c ≠ d := fun e => h (hcd e)
    rw [if_neg (by simpa using h)]
    obtain ⟨q, N, bs, sn, sub, ab, col, h1⟩ := u.cd
    show (if ((clsIn K U).isSome && typeIn K (.ref U) == some (.type "type")) = true then mroIn K T (.ref U) else none) = _
    rw [if_pos (by rw [h1, u.ty]; rfl), t.mro, decide_eq_false hc, Bool.false_or]
    congr 1
    have h' : (Value.ref U == Value.ref T) = false := by simpa using fun e => h e.symm
    rw [List.contains_cons, h', Bool.false_or]
    by_cases hd : d = "HomeError"
    · rw [if_neg (fun e => hc (e.trans hd.symm)), u.base hd, decide_eq_true hd, List.contains_cons]
      simp
    · rw [decide_eq_false hd]
      have := u.neB b hd
      split
      · simp [veTail]
      · rw [List.contains_cons]
        simp [veTail, this]
theorem ErrT.kitV (t : ErrT K B fI c T) : kitOne K (.ref T) (.type "ValueError") = some true := by
  unfold kitOne
  rw [if_neg (by simp)]
  show (if kitMeta "ValueError" = true then subIn K (.ref T) (.type "ValueError") else none) = _
  rw [if_pos (by decide +kernel), t.veB]
end

section
variable {prog : Program} {w : World} {A : Around} {E : Value → Shared → Prop} {R : Result → Shared → Prop} {K : Frag} {mg : Str → Option Value} {B fI cc cda T : Addr} {c : Str}

/-- the bound ValueError.__init__, called with one value -/
theorem he_call_mw {h : Heap} {g : Array GenState} {d : Drawn} {t : Nat} {os : OsState} {u e t0 : Addr} {v : Value} {Q : Value → Shared → Prop}
    {nm q : Str} {N : Addr} {bs bm : List Value} {sn : List Str} {sub : List Value} {ab : Bool} {col : Option Bool} {dd : Option Addr} {k0 k1 k2 k3 k5 : Option Value}
    (hC : h.get? T = some (excClassObj nm q T N bs bm true sn sub ab col dd k0 k1 k2 k3 k5 "ValueError.__new__")) (he : h.get? e = some (excO T t0)) (hu : h.get? u = some (kxs_mw "ValueError.__init__" e))
    (hq : ∀ h' t1, (∀ b o, b ≠ e → h.get? b = some o → h'.get? b = some o) → h'.get? e = some (excO T t1) → Q .none ⟨h', g, d, t, os⟩) :
    wpAny (model prog w) A (call (.ref u) [v]) Q E ⟨h, g, d, t, os⟩ := by
  have hz : [v].length ≤ sizeLine := by rw [sizeLine_eq]; exact (by decide : 1 ≤ 16777216)
  refine wpAny_call (codeAny_of_tree ?_)
  show wpAny _ A.in1 (callAny (.ref u) ⟨[v], []⟩) _ _ _
  simp only [callAny]
  refine wpAny_bind (wpAny_load hu ?_)
  simp only [kxs_mw, show (Value.type "method-wrapper" == Value.type "method" || Value.type "method-wrapper" == Value.type "builtin_function_or_method" || Value.type "method-wrapper" == Value.type "method-wrapper") = true by decide, if_true]
  refine KFB.if_so (by decide) (wpAny_bind (check_bound_init F.excBase_ValueError.toExcCallFacts hC he rfl (wpAny_bind (wpAny_pure (wpAny_pure ?_)))))
  refine ⟨plainId_quiet F.excBase_ValueError.init.plain _, codeAny_builtin F.excBase_ValueError.initEntry ?_⟩
  exact exc_init_tree (cls := .ref T) (t0 := t0) (dv := none) (c2 := .none) (c3 := .none) (b4 := .bool false) he hz (fun h' k e' _ => hq h' _ k e')

/-- the module's facts in a heap -/
structure ModH (K : Frag) (mg : Str → Option Value) (h : Heap) : Prop where
  kin : K.In h
  glob : h.Ns mainGlobals mg
  blt : ∃ mb, h.Ns builtinsNs mb ∧ ∀ x : Str, x ≠ "__name__" → mb x = bootBuiltins x
  nolimit : h.NoLimit
theorem ModH.keeps {h h' : Heap} (m : ModH K mg h) (k : ∀ b o, h.get? b = some o → h'.get? b = some o) : ModH K mg h' :=
  ⟨m.kin.keeps k, m.glob.keeps k, let ⟨mb, h1, h2⟩ := m.blt; ⟨mb, h1.keeps k, h2⟩, m.nolimit.keeps k⟩
theorem ldHe {M : Model} {s : Shared} {name : Str} {L a : Addr} {cd : Value} {cl : List (Str × Addr)} {m : Str → Option Value} {x : Str} {pos : Pos} {v : Value} {Q : Value → Shared → Prop} (hn : s.heap.Ns L m) (hv : m x = some v) (h : Q v s)
    (hl : (envX name heS L a cd cl).kindOf x = some .local := by rfl) (hd : (x == ("__debug__" : Str)) = false := by decide) : wpAny M A (eval (.Name x pos) (envX name heS L a cd cl)) Q E s :=
  wpAny_Name (wpAny_loadName_local (show (envX name heS L a cd cl).scope.kind = .function from rfl) hl hn hv h) hd

/-- what __init__ leaves of a fresh error at x -/
structure HeEnd (h h' : Heap) (x T dx t1 : Addr) (v : Value) : Prop where
  keep : ∀ b o, b ≠ x → h.get? b = some o → h'.get? b = some o
  obj : h'.get? x = some { cls := .ref T, dict := some dx, data := .fields #[.ref t1, .none, .none, .none, .bool false, .none] }
  dbig : h.objs.size ≤ dx
  dne : dx ≠ x
  ns : h'.Ns1 dx (fun y => if y = "value" then some v else none)
theorem he_init {s : Shared} (TB : BaseT prog K mg B fI cc cda) (TT : ErrT K B fI c T) (IB : IsBase K B) {x t0 : Addr} {v : Value} (Z : ModH K mg s.heap) (hx : s.heap.get? x = some (excO T t0)) (hnx : K.lookup x = none) (hroom : A.depth < recursionLimit)
    (hq : ∀ h' tk dx t1, HeEnd s.heap h' x T dx t1 v → R (.ok (.ret .none)) { s with heap := h', toks := tk }) :
    codeAny (model prog w) A (.call (.ref fI) ⟨[.ref x, v], []⟩) R s := by
  obtain ⟨oc, od, kV, doc, pm, an, ct, osl, p1, p2, ho, hcd⟩ := TB.fn
  obtain ⟨cl, cdd, cvs, csl, file, tf, hco, hvs, hfile⟩ := TB.code
  obtain ⟨cl2, cld, sl2, hcell⟩ := TB.cell
  obtain ⟨cdB, hB⟩ := TB.clB
  obtain ⟨q, N, bs, sn, sub, ab, col, dd, k0, k1, k2, k3, k5, hC⟩ := TT.cls
  have hbm := TT.ve
  generalize (if c = "HomeError" then veTail else Value.ref B :: veTail) = bm at hC hbm
  have hcls : clsIn K T = some { name := c, bases := bs, mro := .ref T :: bm, ns := N, qualname := q, hasDict := true, slotNames := sn, subclasses := sub, abstract := ab, collection := col, hasDel := false } := by unfold clsIn; rw [hC] <;> rfl
  refine ks_codeAny_call_defAt (fd := ksFn "__init__" "HomeError.__init__" (heA p1 p2) heB heS .none kV doc pm an (.ref cda) ct cc) (body := heB) (binds := [("self", .ref x), ("value", v)]) hroom (Z.kin _ _ ho) rfl Z.nolimit (codeRec_of Z.kin hcd) rfl
    (BindsTo.of_eq (by first | rfl | with_unfolding_all rfl)) (show ∀ y ∈ heS.names, y.2 ≠ .cell by decide) (by intro y hy; simp at hy; rcases hy with rfl | rfl <;> rfl) (fun h₁ hns hk => ?_)
  generalize hL : s.heap.objs.size = L at hns ⊢
  have hxL : L ≠ x := by rw [← hL]; exact Nat.ne_of_gt (Heap.lt_size hx)
  have Z1 : ModH K mg h₁ := Z.keeps hk
  have hx1 : h₁.get? x = some (excO T t0) := hk _ _ hx
  have I1 : InstAt h₁ x (excO T t0) T none := ⟨hx1, rfl, rfl, trivial⟩
  obtain ⟨oB, hB1, hB2⟩ : ∃ oD, h₁.get? B = some oD ∧ oD.data = .cls cdB := by
    unfold clsIn at hB
    split at hB
    · rename_i c d cd' sl ho
      cases hB
      exact ⟨_, Z1.kin _ _ ho, rfl⟩
    · cases hB
  -- super().__init__(value)
  show _root_.PySem.wpAt _ _ _ (execs (_ :: _) _) _ _ _
  refine ks_wpAt_execs_cons (ks_wpAt_Expr_any (ks_wpAt_MethodCall ?_))
  refine ks_wpAt_super_base (env := ksEnv "HomeError.__init__" heS L fI (.ref cda) cc) rfl rfl rfl rfl (Z1.kin _ _ ho) rfl rfl rfl (Z1.kin _ _ hco) rfl hvs hfile TB.main ?_
  obtain ⟨mb, hb1, hb2⟩ := Z1.blt
  refine ks_loadName_global rfl rfl (loadGlobal_builtin (env := ksEnv "HomeError.__init__" heS L fI (.ref cda) cc) Z1.glob TB.sup hb1 ((hb2 _ (by decide +kernel)).trans (by kernel_rfl)) ⟨rfl, ?_⟩)
  refine wpAny_loadName_free rfl rfl rfl ⟨_, Z1.kin _ _ hcell, rfl⟩ ?_
  refine wpAny_loadName_local rfl rfl hns (by first | rfl | with_unfolding_all rfl | kernel_rfl) ?_
  refine ks_wpAny_isType_cls hB1 hB2 ⟨rfl, ?_⟩
  refine ks_wpAny_call_super hB1 hB2 hx1 rfl (fun c e => by cases e) (looks_mroIn Z1.kin TT.mrB) (fun h₂ e₂ k₂ => ?_)
  have Z2 := Z1.keeps k₂
  have hx2 : h₂.get? x = some (excO T t0) := k₂ _ _ hx1
  have I2 : InstAt h₂ x (excO T t0) T none := ⟨hx2, rfl, rfl, trivial⟩
  have hs2 : h₂.Ns L (fun y => ([("self", Value.ref x), ("value", v)] : List (Str × Value)).reverse.lookup y) := hns.keeps k₂
  have hI : Looks (model prog w) h₂ (isInstance (.ref x) (.type "ValueError")) true := I2.type.andThen (looks_subIn Z2.kin TT.veB)
  have hsup := TT.sup IB
  unfold ks_superIn at hsup
  rw [hcls] at hsup
  have hmro : Looks (model prog w) h₂ (mroOf (.ref T)) (Value.ref T :: bm) := fun A Q E s k q => wpAny_bind ((looks_clsIn Z2.kin hcls) A _ E s k (wpAny_pure q))
  refine kxs_getMethod kxs_ValueError e₂ (looks_opaque Z2.kin TB.opq) hmro rfl Z2.kin hsup hI (ks_ne Z2.kin I2 hcls) (by decide) ?_
  generalize hU : h₂.objs.size = u
  have hu : (h₂.push (kxs_mw "ValueError.__init__" x)).get? u = some (kxs_mw "ValueError.__init__" x) := by rw [← hU]; exact Heap.get?_push_size _ rfl
  have k3 : ∀ b o, h₂.get? b = some o → (h₂.push (kxs_mw "ValueError.__init__" x)).get? b = some o := fun b o e => Heap.get?_push_of_some _ e
  generalize h₂.push (kxs_mw "ValueError.__init__" x) = h₃ at hu k3 ⊢
  have Z3 := Z2.keeps k3
  have hx3 : h₃.get? x = some (excO T t0) := k3 _ _ hx2
  have hs3 := hs2.keeps k3
  refine kxs_callWith1 (h₀ := {}) (L := u + 1) (x := x) (u := u) (i := "ValueError.__init__") (news := [(u, kxs_mw "ValueError.__init__" x)]) (fun p hp => ?_) (by simp) ?_ rfl rfl
  · have e : p = (u, kxs_mw "ValueError.__init__" x) := by simpa using hp
    subst e
    exact ⟨hu, Nat.ne_of_lt (Nat.lt_succ_self _), rfl⟩
  show wpAny _ _ (spliced ((false, eval (.Name "value" ⟨5, 25, 5, 30⟩) _) :: [])) _ _ _
  refine spliced_cons (ldHe (v := v) hs3 (by first | rfl | with_unfolding_all rfl | kernel_rfl) (spliced_nil ⟨hu, ?_⟩))
  refine he_call_mw (Z3.kin _ _ hC) hx3 hu (fun h₄ t1 k4 hx4 => ?_)
  -- self.value = value
  have Z4 : K.In h₄ := fun b o e => k4 b o (fun z => by rw [z, hnx] at e; cases e) (Z3.kin b o e)
  have hs4 : h₄.Ns L (fun y => ([("self", Value.ref x), ("value", v)] : List (Str × Value)).reverse.lookup y) := by
    obtain ⟨oL, es, ep, hL', r⟩ := hs3
    exact ⟨oL, es, ep, k4 _ _ hxL hL', r⟩
  refine wpAt_of_wpAny ?_
  show wpAny _ _ (execs _ _) _ _ _
  refine wpAny_execs_cons (plainObj_wpAny_Assign_Attribute ?_)
  refine ldHe (v := v) hs4 (by first | rfl | with_unfolding_all rfl | kernel_rfl) (ldHe (v := .ref x) hs4 (by first | rfl | with_unfolding_all rfl | kernel_rfl) ?_)
  refine set_plain Z4 (ox := excO T t1) (od := none) ⟨hx4, rfl, rfl, trivial⟩ TT.sa ?_
  refine exc_osa Z4 hx4 hcls (show refsVE (.ref T :: bm) = true from hbm) rfl TT.nv (fun h₅ tk₅ dx k₅ dn dne hx₅ hn₅ => ?_)
  show wpAny _ _ (execs _ _) _ _ _
  have big : s.heap.objs.size ≤ dx := by
    have z : L < h₄.objs.size := hs4.lt
    rw [hL]
    exact Nat.le_of_lt (Nat.lt_of_lt_of_le z dn)
  exact wpAny_execs_nil (hq h₅ tk₅ dx t1 ⟨fun b o hb e => k₅ b o hb (k4 b o hb (k3 b o (k₂ b o (hk b o e)))), hx₅, big, dne, hn₅⟩)

/-- a made error -/
structure HeMade (h h' : Heap) (e T d : Addr) (v : Value) : Prop where
  keep : ∀ b o, h.get? b = some o → h'.get? b = some o
  new : h.objs.size ≤ e
  obj : ∃ t1 : Addr, h'.get? e = some { cls := .ref T, dict := some d, data := .fields #[.ref t1, .none, .none, .none, .bool false, .none] }
  dbig : h.objs.size ≤ d
  dne : d ≠ e
  ns : h'.Ns1 d (fun y => if y = "value" then some v else none)
theorem he_made {s : Shared} (TB : BaseT prog K mg B fI cc cda) (TT : ErrT K B fI c T) (IB : IsBase K B) {v : Value} (Z : ModH K mg s.heap) (hroom : A.depth + 1 < recursionLimit)
    (hq : ∀ h' tk e d, HeMade s.heap h' e T d v → R (.ok (.ret (.ref e))) { s with heap := h', toks := tk }) :
    codeAny (model prog w) A (.call (.ref T) ⟨[v], []⟩) R s := by
  obtain ⟨q, N, bs, sn, sub, ab, col, dd, k0, k1, k2, k3, k5, hC⟩ := id TT.cls
  have hbm := TT.ve
  generalize (if c = "HomeError" then veTail else Value.ref B :: veTail) = bm at hC hbm
  obtain ⟨hp, g, dr, tk, os⟩ := s
  have kk : ∀ b o, hp.get? b = some o → ((hp.push (kdv_tup [v])).push (excO T hp.objs.size)).get? b = some o := fun b o e => Heap.get?_push_of_some _ (Heap.get?_push_of_some _ e)
  have hget : ((hp.push (kdv_tup [v])).push (excO T hp.objs.size)).get? (hp.objs.size + 1) = some (excO T hp.objs.size) := by heap_get
  have hnx : K.lookup (hp.objs.size + 1) = none := by
    cases e : K.lookup (hp.objs.size + 1) with
    | none => rfl
    | some o => exact absurd (Nat.lt_of_succ_lt (Heap.lt_size (Z.kin _ _ e))) (Nat.lt_irrefl _)
  refine call_own F.excBase_ValueError (fun X => refsVE_contains X bm hbm) (Z.kin _ _ hC) (looks_findIn Z.kin TT.ini) (fun self => bind_fn Z.kin self TB.tF) (by rw [sizeLine_eq]; exact (by decide : 1 ≤ 16777216)) ?_
  refine he_init (s := ⟨(hp.push (kdv_tup [v])).push (excO T hp.objs.size), g, dr, tk, os⟩) TB TT IB (Z.keeps kk) hget hnx ?_ fun h' tk' dx t1 M => ?_
  · show A.depth + 1 < recursionLimit
    exact hroom
  · have old : ∀ b o, hp.get? b = some o → h'.get? b = some o := fun b o e => M.keep b o (Nat.ne_of_lt (Nat.lt_succ_of_lt (Heap.lt_size e))) (kk b o e)
    have z : hp.objs.size + 1 + 1 ≤ dx := by
      have q := M.dbig
      first
        | (simpa only [Heap.size_push] using q)
        | exact q
    exact ⟨rfl, hq h' tk' (hp.objs.size + 1) dx ⟨old, Nat.le_succ _, ⟨t1, M.obj⟩, Nat.le_trans (Nat.le_trans (Nat.le_succ _) (Nat.le_succ _)) z, M.dne, M.ns⟩⟩
end
end DL

set_option Elab.async false
set_option linter.all false
set_option maxRecDepth 100000
set_option maxHeartbeats 2000000
/-! The data layer: errors made, raised, read; isinstance; repr. -/
namespace DL
open PySem PySem.Spec L2 PySem.W PySem.Calls
open PyProof.Rows hiding St

structure ErrC (p : Program) (C : Cn) : Prop where
  ex : ∃ B fI cc cda, BaseT p C.b.K C.b.mg B fI cc cda ∧ IsBase C.b.K B ∧ ∀ c ∈ C.b.errs, ∃ T, C.b.mg c = some (.ref T) ∧ ErrT C.b.K B fI c T
/-- what every body of the text knows -/
structure Ct (X : Cx) (C : Cn) : Prop where
  k : C.b.K = X.K
  mg : C.b.mg = X.mg
  err : ErrC X.prog C
  gd : X.A.guards = some []
  sm : ∃ o, X.base.get? sysModules = some o

theorem Inv.made2 {X : Cx} {pins : List (Addr × Obj)} {σ : St} {H : Hp} {s : Shared} (I : Inv X pins σ H s) {h' : Heap} {tk : Nat} {d e : Addr} {o1 o2 : HO} (k : ∀ b o, s.heap.get? b = some o → h'.get? b = some o)
    (hd : s.heap.objs.size ≤ d) (he : s.heap.objs.size ≤ e) (ne : d ≠ e) (n1 : ObjOk X.prog X.w (upd H d o1) h' d o1) (n2 : ObjOk X.prog X.w (upd (upd H d o1) e o2) h' e o2) :
    Inv X pins σ (upd (upd H d o1) e o2) { s with heap := h', toks := tk } := by
  have h1 := I.hok.fresh hd
  have h2 := I.hok.fresh he
  have h3 : upd H d o1 e = none := by rw [upd_ne (Ne.symm ne)]; exact h2
  refine I.un (Un.trans (Un.laid (h := s.heap) (h' := s.heap) (fun _ _ q => q) hd h1) (Un.laid k he h3)) ?_
  exact HOk.laidN (h := h') (I.hok.laid k hd n1) (fun _ _ q => q) h3 n2
theorem Inv.modH {X : Cx} {pins : List (Addr × Obj)} {σ : St} {H : Hp} {s : Shared} (I : Inv X pins σ H s) : ModH X.K X.mg s.heap :=
  ⟨I.kIn, I.mod.glob.keeps I.bk, let ⟨mb, h1, h2⟩ := I.mod.blt; ⟨mb, h1.keeps I.bk, h2⟩, I.nolimit⟩
theorem relO_val {v : V} {v' : Value} (r : RelV v v') (f : Str) : RelO (List.lookup f [(("value" : Str), v)]) (if f = "value" then some v' else none) := by
  by_cases hw : f = "value"
  · subst hw
    rw [if_pos rfl, show List.lookup ("value" : Str) [(("value" : Str), v)] = some v by simp [List.lookup]]
    exact r
  · rw [if_neg hw, show List.lookup f [(("value" : Str), v)] = none by simp [List.lookup, show (f == ("value" : Str)) = false by simpa using hw]]
    trivial

def eErr (f : M Opd) (c : Str) : M Opd := fun ρ => (eA [f] ρ).bind fun os ρ1 => match takeAll os ρ1 with
  | some ([d], ρ2) => .ok (.val (.exc c d)) ρ2
  | _ => .bad
def sRaise (f : M Opd) (c : Str) : M Fl := fun ρ => (eA [f] ρ).bind fun os ρ1 => match takeAll os ρ1 with
  | some ([d], ρ2) => .exc c d ρ2
  | _ => .bad
section
variable {X : Cx} {C : Cn} {W : WX} {e : Expr} {f : M Opd} {c : Str} {p pos : Pos}
theorem de_err (hC : Ct X C) {k : Nat} (hr : Room k X.A) (hc : c ∈ C.b.errs) (ha : PA X [e] (tA C W (eA [f]))) (hg : Gl X c) (hd : (c == ("__debug__" : Str)) = false := by decide)
    (hs : starEach (e :: []) X.env = (false, eval e X.env) :: starEach [] X.env := by rfl) (hpl : (backTo pos (starEach [] X.env)).any (·.1) = false := by rfl) :
    PE X (.Call (.Name c p) [e] [] pos) (tE C W (eErr f c)) := by
  obtain ⟨B, fI, cc, cda, TB, IB, TE⟩ := hC.err.ex
  obtain ⟨T, hT, TT⟩ := TE c hc
  refine ⟨fun pins s σ H Q I h => ?_⟩
  obtain ⟨Y, G, ρ, E, q⟩ := h
  have TT' : ErrT X.K B fI c T := by rw [← hC.k]; exact TT
  have IB' : IsBase X.K B := by rw [← hC.k]; exact IB
  have TB' : BaseT X.prog X.K X.mg B fI cc cda := by rw [← hC.k, ← hC.mg]; exact TB
  refine wpAny_Call_Name_kw (ld_glob I hg (by rw [← hC.mg]; exact hT) ?_ hd)
  refine PySem.W.callWith_K (h₀ := X.base) I.ok.mod.kin TT'.kp (thn (ha.run pos pins s σ H _ I (seqAp (S := fun vs H1 => ∃ v, vs = [v] ∧ ∀ d x, H1 d = none → H1 x = none → d ≠ x → Q (.ref x) (upd (upd H1 d (.xd [(("value" : Str), v)])) x (ExH T d x))) Post.lk E q ?_)) fun us s1 hh => ?_) hs hpl
  · intro G1 H1 ρ1 os vs s1 pl E1 ods p1
    cases t : takeAll os ρ1 with
    | none => rw [t] at p1; exact p1.elim
    | some z =>
      obtain ⟨ds, ρ2⟩ := z
      rw [t] at p1
      obtain ⟨G2, s2, E2, d2⟩ := takeAll_ok E1 pl ods t
      cases ds with
      | nil => exact p1.elim
      | cons d0 ds =>
        cases ds with
        | cons _ _ => exact p1.elim
        | nil =>
          unfold denL at d2
          obtain ⟨v, r, rfl, d3, d4⟩ := d2
          unfold denL at d4
          subst d4
          refine ⟨v, rfl, fun d x hd hx hne => ?_⟩
          have E3 := E2.froze (o := .xd [(("value" : Str), v)]) hd
          have g3 : Sub G2 (upd G2 d (.xd [(("value" : Str), v)])) := Sub.new (E2.gn hd)
          have hx3 : upd H1 d (.xd [(("value" : Str), v)]) x = none := by rw [upd_ne (Ne.symm hne)]; exact hx
          have E4 := E3.froze (o := ExH T d x) hx3
          have g4 : Sub (upd G2 d (.xd [(("value" : Str), v)])) (upd (upd G2 d (.xd [(("value" : Str), v)])) x (ExH T d x)) := Sub.new (E3.gn hx3)
          refine p1 _ _ _ ((s2.trans g3).trans g4) E4 ?_
          unfold OD den
          exact ⟨x, d, T, v, rfl, ⟨hc, hT⟩, upd_same, g4 _ _ upd_same, den.mono (g3.trans g4) _ _ d3⟩
  · obtain ⟨vs, H1, I1, r1, v, ev, q1⟩ := hh
    subst ev
    refine ⟨I1.kIn, ?_⟩
    cases r1 with
    | cons rv rn =>
      rename_i v' us'
      cases rn
      show wpAny _ _ (call (.ref T) [v']) _ _ _
      have Z := Inv.modH I1
      obtain ⟨hp, g, dr, tk, os⟩ := s1
      refine wpAny_call (he_made TB' TT' IB' Z (by have := hr.dp; omega) fun h' tk' x d M => ?_)
      show EP X pins σ Q (.ref x) ⟨h', g, dr, tk', os⟩
      obtain ⟨t1, hx⟩ := M.obj
      have J := Inv.made2 (tk := tk') I1 M.keep M.dbig M.new M.dne (o1 := .xd [(("value" : Str), v)]) (o2 := ExH T d x)
        (show ∃ mA, h'.Ns1 d mA ∧ ∀ f, RelO ([(("value" : Str), v)].lookup f) (mA f) from ⟨_, M.ns, fun f => relO_val rv f⟩)
        ⟨⟨_, _, hx, rfl, rfl, rfl⟩, ⟨_, hx⟩, fun h1 h2 ⟨oe, vs, a1, a2⟩ kk => ⟨oe, vs, kk _ a1, a2⟩⟩
      exact ⟨.ref x, _, J, rfl, q1 d x (I1.hok.fresh M.dbig) (I1.hok.fresh M.new) M.dne⟩
/-- T(e), made to be raised -/
def tMkE (T : Addr) (ta : TA) : St → Hp → XK → Prop := fun σ H Q => ta σ H fun vs H1 => ∃ v, vs = [v] ∧ ∀ d, H1 d = none → Q (.ref T) (some d) (upd H1 d (.xd [(("value" : Str), v)]))
theorem pmk_err {ta : TA} {B fI cc cda T : Addr} {k : Nat} (TB : BaseT X.prog X.K X.mg B fI cc cda) (IB : IsBase X.K B) (TT : ErrT X.K B fI c T) (hT : X.mg c = some (.ref T)) (hr : Room k X.A) (ha : PA X [e] ta) (hg : Gl X c) (hd : (c == ("__debug__" : Str)) = false := by decide)
    (hs : starEach (e :: []) X.env = (false, eval e X.env) :: starEach [] X.env := by rfl) (hpl : (backTo pos (starEach [] X.env)).any (·.1) = false := by rfl) :
    PMk X (.Call (.Name c p) [e] [] pos) (tMkE T ta) := by
  intro pins s σ H Q I h
  refine wpAny_Call_Name_kw (ld_glob I hg hT ?_ hd)
  refine PySem.W.callWith_K (h₀ := X.base) I.ok.mod.kin TT.kp (thn (ha.run pos pins s σ H _ I h) fun us s1 hh => ?_) hs hpl
  obtain ⟨vs, H1, I1, r1, v, ev, q1⟩ := hh
  subst ev
  refine ⟨I1.kIn, ?_⟩
  cases r1 with
  | cons rv rn =>
    rename_i v' us'
    cases rn
    show wpAny _ _ (call (.ref T) [v']) _ _ _
    have Z := Inv.modH I1
    obtain ⟨hp, g, dr, tk, os⟩ := s1
    refine wpAny_call (he_made TB TT IB Z (by have := hr.dp; omega) fun h' tk' x d M => ?_)
    show MkP X pins σ Q (.ref x) ⟨h', g, dr, tk', os⟩
    obtain ⟨t1, hx⟩ := M.obj
    obtain ⟨G', g1, g2⟩ := restrict h' fun b => decide (b ≠ x)
    have gk : ∀ b, b ≠ x → G'.get? b = h'.get? b := fun b hb => g1 b (decide_eq_true hb)
    have ge : G'.get? x = none := g2 x (by simp)
    have old : ∀ b o, hp.get? b = some o → G'.get? b = some o := fun b o q => (gk b (Nat.ne_of_lt (Nat.lt_of_lt_of_le (Heap.lt_size q) M.new))).trans (M.keep b o q)
    have J : Inv X pins σ (upd H1 d (.xd [(("value" : Str), v)])) ⟨G', g, dr, tk', os⟩ :=
      I1.laid (t' := tk') old M.dbig (show ∃ mA, G'.Ns1 d mA ∧ ∀ f, RelO ([(("value" : Str), v)].lookup f) (mA f) from ⟨_, M.ns.at (fun o q => (gk d M.dne).trans q), fun f => relO_val rv f⟩)
    refine ⟨x, _, _, ⟨G', g, dr, tk', os⟩, _, .ref T, some d, rfl, J, fun b o q => ?_, ge, hx, ⟨rfl, rfl⟩, rfl, rfl, ?_, rfl, I1.bare, raises_own TT.exB TT.ty, q1 d (I1.hok.fresh M.dbig)⟩
    · by_cases hb : b = x
      · have q' : G'.get? b = some o := q
        rw [hb, ge] at q'; cases q'
      · exact (gk b hb).symm.trans q
    · rw [upd_ne (Ne.symm M.dne)]
      exact I1.hok.fresh M.new
/-- raise X(e) -/
theorem ds_raise (hC : Ct X C) {k : Nat} (hr : Room k X.A) (hcm : X.calm = true) (tk : Takes X W) (hc : c ∈ C.b.errs) (ha : PA X [e] (tA C W (eA [f]))) (hg : Gl X c) {pos2 : Pos} (hd : (c == ("__debug__" : Str)) = false := by decide)
    (hs : starEach (e :: []) X.env = (false, eval e X.env) :: starEach [] X.env := by rfl) (hpl : (backTo pos (starEach [] X.env)).any (·.1) = false := by rfl) :
    PS X (.Raise (some (.Call (.Name c p) [e] [] pos)) none pos2) (tS C W (sRaise f c)) := by
  obtain ⟨B, fI, cc, cda, TB, IB, TE⟩ := hC.err.ex
  obtain ⟨T, hT, TT⟩ := TE c hc
  have TT' : ErrT X.K B fI c T := by rw [← hC.k]; exact TT
  have IB' : IsBase X.K B := by rw [← hC.k]; exact IB
  have TB' : BaseT X.prog X.K X.mg B fI cc cda := by rw [← hC.k, ← hC.mg]; exact TB
  refine PS.st (ps_raise (W := W) hcm tk (pmk_err TB' IB' TT' (by rw [← hC.mg]; exact hT) hr ha hg hd hs hpl)) fun N σ H h => ?_
  obtain ⟨Y, G, ρ, E, q⟩ := h
  refine seqAp (C := C) (PostS.lk (σ := σ)) E q fun G1 H1 ρ1 os vs s1 pl E1 ods p1 => ?_
  cases t : takeAll os ρ1 with
  | none => rw [t] at p1; exact p1.elim
  | some z =>
    obtain ⟨ds, ρ2⟩ := z
    rw [t] at p1
    obtain ⟨G2, s2, E2, d2⟩ := takeAll_ok E1 pl ods t
    cases ds with
    | nil => exact p1.elim
    | cons d0 ds =>
      cases ds with
      | cons _ _ => exact p1.elim
      | nil =>
        unfold denL at d2
        obtain ⟨v, r, rfl, d3, d4⟩ := d2
        unfold denL at d4
        subst d4
        refine ⟨v, rfl, fun d hd => ?_⟩
        exact p1 T d G2 σ _ hT s2 (E2.laid hd) ⟨v, upd_same, d3, E2.gn hd, E2.h0 hd⟩

/-! ### e.value, isinstance -/
def valF : D → Option Opd
  | .exc _ d => some (.val d)
  | _ => none
/-- an error that is held -/
theorem inst_of (hC : Ct X C) {B fI : Addr} {G H : Hp} {pins : List (Addr × Obj)} {σ : St} {s : Shared} (I : Inv X pins σ H s) (sub : Sub G H) {d : D} {v : V} (TE : ∀ c ∈ C.b.errs, ∃ T, C.b.mg c = some (.ref T) ∧ ErrT C.b.K B fI c T) (h : den C.b G (.exc c d) v) :
    ∃ a dx T u oe od, v = .ref a ∧ c ∈ C.b.errs ∧ C.b.mg c = some (.ref T) ∧ ErrT X.K B fI c T ∧ PySem.W.InstAt s.heap a oe T (some od) ∧ H dx = some (.xd [(("value" : Str), u)]) ∧ den C.b G d u ∧ s.heap.get? dx = some od := by
  unfold den at h
  obtain ⟨a, dx, T, u, rfl, ⟨hc, hT⟩, h1, h2, h3⟩ := h
  obtain ⟨T', hT', TT⟩ := TE c hc
  rw [hT] at hT'
  cases hT'
  obtain ⟨⟨oe, vs, a1, a2, a3, a4⟩, _, _⟩ : ObjOk X.prog X.w H s.heap a (ExH T dx a) := I.hok a _ (sub _ _ h1)
  obtain ⟨mA, hns, hr⟩ : ObjOk X.prog X.w H s.heap dx (.xd [(("value" : Str), u)]) := I.hok dx _ (sub _ _ h2)
  obtain ⟨od, ho, hl⟩ := lookIn_ns hns
  exact ⟨a, dx, T, u, oe, od, rfl, hc, hT, by rw [← hC.k]; exact TT, ⟨a1, a2, by unfold PySem.W.notCls; rw [a4] <;> rfl, by rw [a3]; exact ho⟩, sub _ _ h2, h3, ho⟩
theorem de_value (hC : Ct X C) (he : PE X e (tE C W f)) (hb : attributeBase e "value" X.env (eval e X.env) = eval e X.env := by rfl) : PE X (.Attribute e "value" pos) (tE C W (e1 f valF)) := by
  refine ⟨fun pins s σ H Q I h => ?_⟩
  obtain ⟨Y, G, ρ, E, p⟩ := h
  refine attr_of hb (thn (he.run pins s σ H _ I (seq1 (S := fun v H1 => ∃ G1 c d, Sub G1 H1 ∧ den C.b G1 (.exc c d) v ∧ ∀ u, den C.b G1 d u → Q u H1) Post.lk E p ?_)) fun u s1 hh => ?_)
  · intro G1 H1 ρ1 o1 v1 s1 pl1 E1 od1 p1
    unfold fin1 at p1
    cases l : look o1 ρ1 with
    | none => rw [l] at p1; exact p1.elim
    | some d =>
      rw [l] at p1
      dsimp only at p1
      cases d with
      | exc c d =>
        rcases look_ok E1 od1 l with h | ⟨_, _, h⟩
        · exact ⟨G1, c, d, E1.sub, h, fun u hu => p1 G1 H1 u Sub.rfl E1 hu⟩
        · exact h.elim
      | _ => exact p1.elim
  · obtain ⟨x, H1, I1, rx, G1, c, d, sub, dn, q⟩ := hh
    obtain ⟨B, fI, cc, cda, TB, IB, TE⟩ := hC.err.ex
    obtain ⟨a, dx, T, u', oe, od, rfl, hc, hT, TT, J, hx, du, ho⟩ := inst_of hC I1 sub TE dn
    obtain rfl : u = Value.ref a := rx
    obtain ⟨mA, hns, hr⟩ : ObjOk X.prog X.w H1 s1.heap dx (.xd [(("value" : Str), u')]) := I1.hok dx _ hx
    obtain ⟨od', ho', hl⟩ := lookIn_ns hns
    rw [ho] at ho'
    cases ho'
    have l : List.lookup ("value" : Str) [(("value" : Str), u')] = some u' := by simp [List.lookup]
    obtain ⟨uu, hu, ru⟩ := RelO.some_of (v := u') (o := mA "value") (by rw [← l]; exact hr "value")
    exact HandSPX.exc_get I1.kIn J TT.ga TT.gg TT.exB (PySem.W.findObj_own TT.hd TT.nv rfl (by rw [hl, hu])) (handed_of ru) ⟨u', H1, I1.tok _, ru, q u' du⟩

/-! isinstance -/
inductive ClsD where
  | ty (n : String) | err (c : Str)
def isTyB (n : String) (d : D) : Option Bool :=
  if n = "int" then some (match d with | .int _ => true | .bl _ => true | _ => false)
  else if n = "bool" then some (match d with | .bl _ => true | _ => false)
  else if n = "str" then some (match d with | .str _ => true | _ => false)
  else if n = "tuple" then some (match d with | .tup _ => true | _ => false)
  else if n = "ValueError" then some (match d with | .exc _ _ => true | _ => false)
  else none
def isObj : D → Bool
  | .obj _ _ => true
  | _ => false
def isiB0 : ClsD → D → Option Bool
  | .ty n, d => isTyB n d
  | .err c', .exc c _ => some (decide (c = c') || decide (c' = "HomeError"))
  | .err _, _ => some false
/-- .. of what is no instance of an own class -/
def isiB (cl : ClsD) (d : D) : Option Bool := if isObj d then none else isiB0 cl d
def isiF (cl : ClsD) : D → Option Opd := fun d => (isiB cl d).map fun b => .val (.bl b)
/-- what a class's name stands for -/
def ClsIs (C : Cn) (B fI : Addr) : ClsD → Value → Prop
  | .ty n, u => u = .type n
  | .err c, u => ∃ T, u = .ref T ∧ C.b.mg c = some (.ref T) ∧ ErrT C.b.K B fI c T
/-- the built-in type of plain data -/
def tyD : D → Option String
  | .non => some "NoneType" | .bl _ => some "bool" | .int _ => some "int" | .str _ => some "str" | .lst _ => some "list" | .scr _ => some "list" | .tup _ => some "tuple" | .dK _ => some "dict" | .exc _ _ => none | .obj _ _ => none
theorem tyx_of {K : PySem.W.Frag} (hK : C.b.K = K) {G H : Hp} (s : Sub G H) {d : D} {v : V} {n : String} (h : DV C.b G H d v) (hn : tyD d = some n) : TyX K H v (.type n) := by
  subst hK
  cases d with
  | obj _ _ => cases hn
  | non => cases hn; rw [h.non]; exact .base .non
  | bl b => cases hn; rw [h.bl]; exact .base (.bl b)
  | int b => cases hn; rw [h.int]; exact .base (.int b)
  | str b => cases hn; rw [h.str]; exact .base (.str b)
  | lst xs =>
    cases hn
    obtain ⟨a, vs, rfl, h1, _⟩ := h.lst s
    exact .base (.lst h1)
  | dK xs =>
    cases hn
    obtain ⟨a, vs, rfl, h1, _⟩ := h.dK s
    exact .base (.dK h1)
  | tup xs =>
    cases hn
    obtain ⟨a, vs, rfl, h1, _⟩ := h.tup rfl s
    rcases h1 with (h1 | ⟨o, h1⟩) | ⟨o, its, n, h1, h2, _⟩
    · exact .base (.tup h1)
    · exact .fTuple h1
    · exact .kTuple h1 h2
  | scr xs =>
    cases hn
    obtain ⟨a, rfl, h1⟩ := h.scr rfl s
    rcases h1 with (h1 | ⟨o, h1⟩) | ⟨o, its, n, h1, h2, _⟩
    · exact .base (.lst h1)
    · exact .base (.frz h1)
    · exact .kList h1 h2
  | exc c d => cases hn
theorem ref_no {a : String} {U : Addr} (h : a ∈ ["NoneType", "bool", "int", "str", "list", "tuple", "dict"]) : (PySem.fastBuiltinMro a).map (·.contains (Value.ref U)) = some false := by
  simp only [List.mem_cons, List.mem_nil_iff, or_false] at h
  rcases h with rfl | rfl | rfl | rfl | rfl | rfl | rfl <;> kernel_rfl
theorem tyD_mem {d : D} {n : String} (h : tyD d = some n) : n ∈ ["NoneType", "bool", "int", "str", "list", "tuple", "dict"] := by
  cases d <;> cases h <;> decide
/-- plain data against a built-in type -/
theorem kit_plain {K : PySem.W.Frag} {d : D} {n m : String} {b : Bool} (h : tyD d = some n) (e : isTyB m d = some b) : PySem.W.kitOne K (.type n) (.type m) = some b := by
  unfold isTyB at e
  split at e
  · rename_i hm
    subst hm
    cases d <;> cases h <;> cases e <;> first | exact kit_ty (r := true) (by decide +kernel) | exact kit_ty (r := false) (by decide +kernel)
  · split at e
    · rename_i hm
      subst hm
      cases d <;> cases h <;> cases e <;> first | exact kit_ty (r := true) (by decide +kernel) | exact kit_ty (r := false) (by decide +kernel)
    · split at e
      · rename_i hm
        subst hm
        cases d <;> cases h <;> cases e <;> first | exact kit_ty (r := true) (by decide +kernel) | exact kit_ty (r := false) (by decide +kernel)
      · split at e
        · rename_i hm
          subst hm
          cases d <;> cases h <;> cases e <;> first | exact kit_ty (r := true) (by decide +kernel) | exact kit_ty (r := false) (by decide +kernel)
        · split at e
          · rename_i hm
            subst hm
            cases d <;> cases h <;> cases e <;> first | exact kit_ty (r := true) (by decide +kernel) | exact kit_ty (r := false) (by decide +kernel)
          · cases e
/-- plain data against a class of errors -/
theorem kit_noerr {K : PySem.W.Frag} {B fI U : Addr} {c : Str} {d : D} {n : String} (h : tyD d = some n) (u : ErrT K B fI c U) : PySem.W.kitOne K (.type n) (.ref U) = some false := by
  unfold PySem.W.kitOne
  rw [if_neg (by simp)]
  obtain ⟨q, N, bs, sn, sub, ab, col, h1⟩ := u.cd
  show (if ((PySem.W.clsIn K U).isSome && PySem.W.typeIn K (.ref U) == some (.type "type")) = true then (PySem.fastBuiltinMro n).map (·.contains (Value.ref U)) else none) = _
  rw [if_pos (by rw [h1, u.ty]; rfl), ref_no (tyD_mem h)]
/-- an error against a built-in type -/
theorem kit_errty {K : PySem.W.Frag} {B fI T : Addr} {c : Str} {d : D} {m : String} {b : Bool} (t : ErrT K B fI c T) (e : isTyB m (.exc c d) = some b) : PySem.W.kitOne K (.ref T) (.type m) = some b := by
  have key : ∀ m : String, PySem.W.kitMeta m = true → PySem.W.kitOne K (.ref T) (.type m) = some (HandSPX.veTail.contains (.type m)) := fun m hm => by
    unfold PySem.W.kitOne
    rw [if_neg (by simp)]
    show (if PySem.W.kitMeta m = true then PySem.W.mroIn K T (.type m) else none) = _
    rw [if_pos hm, t.mrT]
  unfold isTyB at e
  split at e
  · rename_i hm; subst hm; cases e; (refine (key _ (by decide +kernel)).trans ?_); first | exact (show some (HandSPX.veTail.contains _) = some true by decide +kernel) | exact (show some (HandSPX.veTail.contains _) = some false by decide +kernel)
  · split at e
    · rename_i hm; subst hm; cases e; (refine (key _ (by decide +kernel)).trans ?_); first | exact (show some (HandSPX.veTail.contains _) = some true by decide +kernel) | exact (show some (HandSPX.veTail.contains _) = some false by decide +kernel)
    · split at e
      · rename_i hm; subst hm; cases e; (refine (key _ (by decide +kernel)).trans ?_); first | exact (show some (HandSPX.veTail.contains _) = some true by decide +kernel) | exact (show some (HandSPX.veTail.contains _) = some false by decide +kernel)
      · split at e
        · rename_i hm; subst hm; cases e; (refine (key _ (by decide +kernel)).trans ?_); first | exact (show some (HandSPX.veTail.contains _) = some true by decide +kernel) | exact (show some (HandSPX.veTail.contains _) = some false by decide +kernel)
        · split at e
          · rename_i hm; subst hm; cases e; (refine (key _ (by decide +kernel)).trans ?_); first | exact (show some (HandSPX.veTail.contains _) = some true by decide +kernel) | exact (show some (HandSPX.veTail.contains _) = some false by decide +kernel)
          · cases e
theorem kitx_err {K : PySem.W.Frag} {B fI T a : Addr} {c : Str} {oe : Obj} {od : Option Obj} (t : ErrT K B fI c T) : PySem.W.KitX K (.ref a) (.ref T) (fun h => PySem.W.InstAt h a oe T od) :=
  PySem.W.kitx_exc (by obtain ⟨q, N, bs, sn, sub, ab, col, h1⟩ := t.cd; rw [h1]; rfl) t.ga t.gg t.exB t.ca (by kernel_rfl) (by kernel_rfl) t.mrO

/-- isinstance(x, c): x data, c one class -/
def rIsD (C : Cn) (B fI : Addr) (cl : ClsD) (cv : Value) : List V → Hp → VK → Prop := fun xs H Q => ∃ x c G d b, xs = [x, c] ∧ (∀ u, RelV c u → u = cv) ∧ Sub G H ∧ DV C.b G H d x ∧ ClsIs C B fI cl cv ∧ isiB cl d = some b ∧ Q (.bl b) H
theorem call_isD (hC : Ct X C) {B fI : Addr} (IB : IsBase C.b.K B) (TE : ∀ c ∈ C.b.errs, ∃ T, C.b.mg c = some (.ref T) ∧ ErrT C.b.K B fI c T) (cl : ClsD) (cv : Value) : CallR X (.builtin "isinstance") (rIsD C B fI cl cv) := by
  intro pins s σ H xs us Q I r h
  obtain ⟨x, c, G, d, b, rfl, hcv, sub, dv, hcl, e, q⟩ := h
  have hob : isObj d = false := by
    cases h : isObj d with
    | false => rfl
    | true => unfold isiB at e; rw [h] at e; cases e
  replace e : isiB0 cl d = some b := by unfold isiB at e; rw [hob] at e; exact e
  obtain ⟨u1, u2, rfl, r1, r2⟩ := vals2 r
  obtain rfl := hcv _ r2
  by_cases hx : ∃ c0 d0, d = .exc c0 d0
  · obtain ⟨c0, d0, rfl⟩ := hx
    rcases dv with dv | ⟨_, _, dv⟩
    · obtain ⟨a, dx, T, u, oe, od, rfl, hc, hT, TT, J, _⟩ := inst_of hC I sub TE dv
      obtain rfl : u1 = Value.ref a := r1
      have ek : PySem.W.kitOne X.K (.ref T) u2 = some b := by
        cases cl with
        | ty n => obtain rfl : u2 = .type n := hcl; exact kit_errty (d := d0) TT e
        | err c' =>
          obtain ⟨U, rfl, hU, UT⟩ := hcl
          cases e
          refine TT.kit (by rw [← hC.k]; exact UT) (by rw [← hC.k]; exact IB) (fun e => ?_)
          rw [e, hU] at hT
          exact (Value.ref.inj (Option.some.inj hT)).symm
      exact PySem.W.kia_one (kitx_err TT) I.kIn J ek (fun z => nomatch z) fun tk => ⟨.bl b, H, I.tok tk, rfl, q⟩
    · exact dv.elim
  · obtain ⟨n, hn⟩ : ∃ n, tyD d = some n := by
      cases d <;> first | exact ⟨_, rfl⟩ | exact absurd ⟨_, _, rfl⟩ hx | cases hob
    have ek : PySem.W.kitOne X.K (.type n) u2 = some b := by
      cases cl with
      | ty m => obtain rfl : u2 = .type m := hcl; exact kit_plain hn e
      | err c' =>
        obtain ⟨U, rfl, hU, UT⟩ := hcl
        have : b = false := by
          cases d <;> first | (cases e; rfl) | exact absurd ⟨_, _, rfl⟩ hx | cases hob
        subst this
        exact kit_noerr hn (by rw [← hC.k]; exact UT)
    obtain ⟨P, Z, p, hx⟩ := kit_of I r1 (tyx_of hC.k sub dv hn)
    exact PySem.W.kia_one Z I.kIn p ek hx fun tk => ⟨.bl b, H, I.tok tk, rfl, q⟩
theorem de_isi (hC : Ct X C) {b : Expr} (cl : ClsD) {v : V} {cv : Value} (hcl : ∀ B fI, (∀ c ∈ C.b.errs, ∃ T, C.b.mg c = some (.ref T) ∧ ErrT C.b.K B fI c T) → ClsIs C B fI cl cv) (hrv : ∀ u, RelV v u → u = cv)
    (he : PE X e (tE C W f)) (hb : PE X b (tC v)) (hg : Gl X "isinstance") (hm : X.mg "isinstance" = none) (hs : starEach (e :: [b]) X.env = (false, eval e X.env) :: starEach [b] X.env := by rfl) (hs2 : starEach (b :: []) X.env = (false, eval b X.env) :: starEach [] X.env := by rfl)
    (hpl : (backTo pos (starEach [b] X.env)).any (·.1) = false := by rfl) : PE X (.Call (.Name "isinstance" p) [e, b] [] pos) (tE C W (e1 f (isiF cl))) := by
  obtain ⟨B, fI, cc, cda, TB, IB, TE⟩ := hC.err.ex
  refine PE.st (pe_callB (call_isD hC IB TE cl cv) hg hm (by kernel_rfl) (pa_cons he (pa_cons hb pa_nil hs2) hs) (by decide) (by decide) hs hpl) fun σ H Q h => ?_
  obtain ⟨Y, G, ρ, E, q⟩ := h
  refine seq1 (C := C) Post.lk E q fun G1 H1 ρ1 o1 v1 s1 pl1 E1 od1 p1 => ?_
  unfold fin1 at p1
  cases l : look o1 ρ1 with
  | none => rw [l] at p1; exact p1.elim
  | some d =>
    rw [l] at p1
    dsimp only at p1
    cases hi : isiB cl d with
    | none => unfold isiF at p1; rw [hi] at p1; exact p1.elim
    | some b =>
      unfold isiF at p1
      rw [hi] at p1
      exact ⟨v1, v, G1, d, b, rfl, hrv, E1.sub, look_ok E1 od1 l, hcl B fI TE, hi, p1 G1 H1 _ Sub.rfl E1 (by unfold OD den; rfl)⟩
end
end DL

set_option Elab.async false
set_option linter.all false
set_option maxRecDepth 100000
set_option maxHeartbeats 1000000
/-! The data layer: a cell that is being filled; repr; displays of dicts; list(range). -/
namespace DL
open PySem PySem.Spec L2
open PyProof.Rows hiding St

/-! ### a cell that nobody else reaches -/
def Gr.prot (Y : Gr) (p : Addr) (o : HO) : Gr := { Y with H0 := upd Y.H0 p o }
/-- nothing of the frame's ground stands at p -/
structure Off (Y : Gr) (p : Addr) : Prop where
  h0 : Y.H0 p = none
  g0 : Y.G0 p = none
  b : ∀ i, (i, p) ∉ Y.B
  t : p ∉ Y.T.map (·.1)
section
variable {C : Cn} {Y : Gr} {G : Hp} {σ : St} {H : Hp} {ρ : DEnv} {p : Addr} {o o' : HO}
theorem ED.off (E : ED C Y G σ H ρ) (h : H p = none) : Off Y p := by
  refine ⟨E.h0 h, ?_, fun i hb => ?_, tabs_none E.tb.2 h⟩
  · cases e : Y.G0 p with
    | none => rfl
    | some o => have := E.g0 _ _ e; rw [E.gn h] at this; cases this
  · obtain ⟨h1, hn, b, d, h2, hc, h3⟩ := E.bor i p hb
    rcases h3 with rfl | ⟨u, h3⟩
    · obtain ⟨q, q1, q2, q3, q4⟩ := E.own i d h2
      rw [h1] at q1
      cases q1
      obtain ⟨u, hu⟩ := q3.some
      rw [h] at hu; cases hu
    · rw [E.gn h] at h3; cases h3
theorem ED.prot (E : ED C Y G σ H ρ) (h : H p = none) : ED C (Y.prot p o) G σ (upd H p o) ρ := by
  have L := E.laid (o := o) h
  refine ⟨L.sub, L.frz, fun i d e => ?_, L.ap, L.len, L.bor, fun a u e hb ht => ?_, fun a u e => ?_, L.g0, L.tb, L.gt⟩
  · obtain ⟨q, q1, q2, q3, q4⟩ := L.own i d e
    refine ⟨q, q1, q2, q3, ?_⟩
    rcases q4 with q4 | q4
    · by_cases hq : q = p
      · obtain ⟨q', q1', _, q3', _⟩ := E.own i d e
        rw [q1] at q1'; cases q1'
        obtain ⟨u, hu⟩ := q3'.some
        rw [hq, h] at hu; cases hu
      · exact .inl (by show upd Y.H0 p o q = none; rw [upd_ne hq]; exact q4)
    · exact .inr q4
  · have e' : upd Y.H0 p o a = some u := e
    by_cases ha : a = p
    · subst ha; rw [upd_same] at e' ⊢; exact e'
    · rw [upd_ne ha] at e'
      exact L.old a u e' hb ht
  · have : a ≠ p := fun z => by rw [z, E.gn h] at e; cases e
    rcases E.fz a u e with x | x | x
    · exact .inl (by show upd Y.H0 p o a = none; rw [upd_ne this]; exact x)
    · exact .inr (.inl x)
    · exact .inr (.inr x)
/-- what is known of the cell meanwhile -/
theorem ED.cell (E : ED C (Y.prot p o) G σ H ρ) (f : Off Y p) : H p = some o ∧ G p = none ∧ ∀ (i : Nat) (e : D), ρ[i]? = some (some (true, e)) → σ[i]? ≠ some (some (.ref p)) := by
  refine ⟨E.old p o (by show upd Y.H0 p o p = _; rw [upd_same]) f.b f.t, ?_, fun i e h1 h2 => ?_⟩
  · cases e : G p with
    | none => rfl
    | some u =>
      rcases E.fz p u e with x | x | ⟨i, x⟩
      · have x' : upd Y.H0 p o p = none := x
        rw [upd_same] at x'; cases x'
      · have x' : Y.G0 p = some u := x
        rw [f.g0] at x'; cases x'
      · exact absurd x (f.b i)
  · obtain ⟨q, q1, q2, q3, q4⟩ := E.own i e h1
    rw [h2] at q1; cases q1
    rcases q4 with q4 | q4
    · have x' : upd Y.H0 p o p = none := q4
      rw [upd_same] at x'; cases x'
    · exact f.b i q4
/-- the cell is written -/
theorem ED.setC (E : ED C (Y.prot p o) G σ H ρ) (f : Off Y p) (hq : Quiet o) : ED C (Y.prot p o') G σ (upd H p o') ρ := by
  obtain ⟨c1, c2, c3⟩ := E.cell f
  refine ⟨fun a u e => ?_, E.frz, fun i d e => ?_, E.ap, E.len, E.bor, fun a u e hb ht => ?_, fun a u e => ?_, E.g0, ⟨E.tb.1, tabs_upd E.tb.2 c1 hq⟩, E.gt⟩
  · have : a ≠ p := fun z => by rw [z, c2] at e; cases e
    rw [upd_ne this]; exact E.sub a u e
  · obtain ⟨q, q1, q2, q3, q4⟩ := E.own i d e
    have hq : q ≠ p := fun z => c3 i d e (z ▸ q1)
    refine ⟨q, q1, q2, q3.mono Sub.rfl (upd_ne hq), ?_⟩
    rcases q4 with q4 | q4
    · have x' : upd Y.H0 p o q = none := q4
      rw [upd_ne hq] at x'
      exact .inl (by show upd Y.H0 p o' q = none; rw [upd_ne hq]; exact x')
    · exact .inr q4
  · have e' : upd Y.H0 p o' a = some u := e
    by_cases ha : a = p
    · subst ha; rw [upd_same] at e' ⊢; exact e'
    · rw [upd_ne ha] at e' ⊢
      exact E.old a u (by show upd Y.H0 p o a = some u; rw [upd_ne ha]; exact e') hb ht
  · rcases E.fz a u e with x | x | x
    · have x' : upd Y.H0 p o a = none := x
      by_cases ha : a = p
      · subst ha; rw [upd_same] at x'; cases x'
      · rw [upd_ne ha] at x'
        exact .inl (by show upd Y.H0 p o' a = none; rw [upd_ne ha]; exact x')
    · exact .inr (.inl x)
    · exact .inr (.inr x)
theorem XD.unprot {b : Cb} {dx : Addr} {d : D} (x : XD b (Y.prot p o) G H dx d) : XD b Y G H dx d := by
  obtain ⟨u, h1, h2, h3, h4⟩ := x
  have h : upd Y.H0 p o dx = none := h4
  have ne : dx ≠ p := fun z => by rw [z, upd_same] at h; cases h
  rw [upd_ne ne] at h
  exact ⟨u, h1, h2, h3, h⟩
/-- it is let go -/
theorem ED.unprot (E : ED C (Y.prot p o) G σ H ρ) (f : Off Y p) : ED C Y G σ H ρ := by
  obtain ⟨c1, c2, c3⟩ := E.cell f
  refine ⟨E.sub, E.frz, fun i d e => ?_, E.ap, E.len, E.bor, fun a u e hb ht => ?_, fun a u e => ?_, E.g0, E.tb, E.gt⟩
  · obtain ⟨q, q1, q2, q3, q4⟩ := E.own i d e
    have hq : q ≠ p := fun z => c3 i d e (z ▸ q1)
    refine ⟨q, q1, q2, q3, ?_⟩
    rcases q4 with q4 | q4
    · have x' : upd Y.H0 p o q = none := q4
      rw [upd_ne hq] at x'
      exact .inl x'
    · exact .inr q4
  · have ha : a ≠ p := fun z => by rw [z, f.h0] at e; cases e
    exact E.old a u (by show upd Y.H0 p o a = some u; rw [upd_ne ha]; exact e) hb ht
  · rcases E.fz a u e with x | x | x
    · have x' : upd Y.H0 p o a = none := x
      by_cases ha : a = p
      · subst ha; rw [upd_same] at x'; cases x'
      · rw [upd_ne ha] at x'
        exact .inl x'
    · exact .inr (.inl x)
    · exact .inr (.inr x)
/-- .. as a fresh thing that is owned -/
theorem ED.cellO (E : ED C (Y.prot p o) G σ H ρ) (f : Off Y p) {d : D} (h : ownAt C.b G H p d) : ED C Y G σ H ρ ∧ OD C Y G σ H ρ (.own d) (.ref p) := by
  obtain ⟨c1, c2, c3⟩ := E.cell f
  exact ⟨E.unprot f, p, rfl, c2, h, f.h0, c3⟩
end

/-! ### repr -/
def reprF : List D → Option Opd
  | [d] => match toPy d with
    | some p => if p.showable = true ∧ p.shown.length ≤ 16777216 ∧ p.depth ≤ 40 then some (.val (.str p.shown)) else none
    | none => none
  | _ => none
section
variable {X : Cx} {C : Cn} {pins : List (Addr × Obj)} {σ : St} {G H : Hp} {s : Shared}
theorem ne_sys (hC : Ct X C) (I : Inv X pins σ H s) {a : Addr} {o : HO} (h : H a = some o) : a ≠ sysModules := fun z => by
  obtain ⟨u, hu⟩ := hC.sm
  have := (I.bs _ _ hu).2
  rw [← z, h] at this; cases this
theorem rd_len {v : V} {u : Value} : True := trivial
theorem key_reads {h : Heap} {k : Key} {v : Value} (e : keyIs k v = true) : ∃ as, Reads h v (match k with | .inl i => .int i | .inr s => .str s) as ∧ sysModules ∉ as := by
  rcases keyIs_shape e with ⟨i, t, rfl, rfl⟩ | ⟨x, t, rfl, rfl⟩
  · exact ⟨[], .int i t, by simp⟩
  · exact ⟨[], .str x t, by simp⟩
mutual
theorem reads_of (hC : Ct X C) (I : Inv X pins σ H s) (sub : Sub G H) : ∀ (d : D) (v : V) (u : Value) (p : PyData), den C.b G d v → toPy d = some p → RelV v u → ∃ as, Reads s.heap u p as ∧ sysModules ∉ as
  | .non, v, u, p, h, e, r => by
    unfold den at h; unfold toPy at e; cases e; subst h; cases r; exact ⟨[], .none, by simp⟩
  | .bl b, v, u, p, h, e, r => by
    unfold den at h; unfold toPy at e; cases e; subst h; cases r; exact ⟨[], .bool b, by simp⟩
  | .int b, v, u, p, h, e, r => by
    unfold den at h; unfold toPy at e; cases e; subst h; obtain ⟨t, rfl⟩ := r; exact ⟨[], .int b t, by simp⟩
  | .str b, v, u, p, h, e, r => by
    unfold den at h; unfold toPy at e; cases e; subst h; obtain ⟨t, rfl⟩ := r; exact ⟨[], .str b t, by simp⟩
  | .lst xs, v, u, p, h, e, r => by
    unfold den at h
    unfold toPy at e
    obtain ⟨a, vs, rfl, h1, h2⟩ := h
    obtain rfl : u = Value.ref a := r
    cases e1 : toPyL xs with
    | none => rw [e1] at e; cases e
    | some ps =>
      rw [e1] at e
      cases e
      obtain ⟨z, its, n, rv, ho⟩ : ObjOk X.prog X.w H s.heap a (.lst vs) := I.hok a _ (sub _ _ h1)
      obtain ⟨as, ra, na⟩ := readsL_of hC I sub xs vs its ps h2 e1 rv
      refine ⟨a :: as, .list ho rfl rfl (by simpa using ra), fun hm => ?_⟩
      rcases List.mem_cons.mp hm with e | hm
      · exact ne_sys hC I (sub _ _ h1) e.symm
      · exact na hm
  | .tup xs, v, u, p, h, e, r => by
    unfold den at h
    unfold toPy at e
    obtain ⟨a, vs, rfl, h1, h2⟩ := h
    obtain rfl : u = Value.ref a := r
    cases e1 : toPyL xs with
    | none => rw [e1] at e; cases e
    | some ps =>
      rw [e1] at e
      cases e
      obtain ⟨its, rv, ⟨o, ho, hc, n, hd⟩, hz⟩ := I.tuple (by rw [← hC.k]; exact sub.sqT h1)
      obtain ⟨as, ra, na⟩ := readsL_of hC I sub xs vs its ps h2 e1 rv
      exact ⟨as, .tuple ho hc hd (by simpa using ra), na⟩
  | .dK kvs, v, u, p, h, e, r => by
    unfold den at h
    unfold toPy at e
    obtain ⟨a, ws, rfl, h1, h2⟩ := h
    obtain rfl : u = Value.ref a := r
    cases e1 : toPyK kvs with
    | none => rw [e1] at e; cases e
    | some ps =>
      rw [e1] at e
      cases e
      obtain ⟨z, ns, vs, rv, o, es, ep, ho, hx, hd, hk, hp, hnd⟩ : ObjOk X.prog X.w H s.heap a (.dK ws) := I.hok a _ (sub _ _ h1)
      obtain ⟨as, bs, ra, rb, na, nb⟩ := readsK_of hC I sub kvs ws vs es.toList ps h2 e1 rv hp
      refine ⟨a :: as ++ bs, .dict ho hx.1 hd ra rb, fun hm => ?_⟩
      rcases List.mem_append.mp hm with hm | hm
      · rcases List.mem_cons.mp hm with e | hm
        · exact ne_sys hC I (sub _ _ h1) e.symm
        · exact na hm
      · exact nb hm
  | .exc _ _, v, u, p, h, e, r => by unfold toPy at e; cases e
  | .scr _, v, u, p, h, e, r => by unfold toPy at e; cases e
  | .obj _ _, v, u, p, h, e, r => by unfold toPy at e; cases e
theorem readsL_of (hC : Ct X C) (I : Inv X pins σ H s) (sub : Sub G H) : ∀ (d : List D) (v : List V) (u : List Value) (p : List PyData), denL C.b G d v → toPyL d = some p → Vals v u → ∃ as, ReadsAll s.heap u p as ∧ sysModules ∉ as
  | [], v, u, p, h, e, r => by
    unfold denL at h; unfold toPyL at e; cases e; subst h; cases r; exact ⟨[], .nil, by simp⟩
  | d :: ds, v, u, p, h, e, r => by
    unfold denL at h
    unfold toPyL at e
    obtain ⟨w, t, rfl, h1, h2⟩ := h
    cases r with
    | cons r1 r2 =>
      cases e1 : toPy d with
      | none => rw [e1] at e; cases e
      | some q =>
        cases e2 : toPyL ds with
        | none => rw [e1, e2] at e; cases e
        | some qs =>
          rw [e1, e2] at e
          cases e
          obtain ⟨as, a1, a2⟩ := reads_of hC I sub d w _ q h1 e1 r1
          obtain ⟨bs, b1, b2⟩ := readsL_of hC I sub ds t _ qs h2 e2 r2
          exact ⟨as ++ bs, .cons a1 b1, fun hm => (List.mem_append.mp hm).elim a2 b2⟩
theorem readsK_of (hC : Ct X C) (I : Inv X pins σ H s) (sub : Sub G H) : ∀ (d : List (Key × D)) (v : List (Key × V)) (u : List (Key × Value)) (es : List DictEntry) (p : List (PyData × PyData)), denK C.b G d v → toPyK d = some p → KV v u → PySem.Pairs (mixKind X.prog X.w) es u →
    ∃ as bs, ReadsAll s.heap (es.map (·.key)) (p.map (·.1)) as ∧ ReadsAll s.heap (es.map (·.val)) (p.map (·.2)) bs ∧ sysModules ∉ as ∧ sysModules ∉ bs
  | [], v, u, es, p, h, e, r, pr => by
    unfold denK at h; unfold toPyK at e; cases e; subst h; cases r; cases pr; exact ⟨[], [], .nil, .nil, by simp, by simp⟩
  | (k, d) :: ds, v, u, es, p, h, e, r, pr => by
    unfold denK at h
    unfold toPyK at e
    obtain ⟨w, t, rfl, h1, h2⟩ := h
    cases r with
    | cons r1 r2 =>
      rename_i q us
      obtain ⟨k', v'⟩ := q
      obtain ⟨rk, r1⟩ := r1
      dsimp only at rk r1
      subst rk
      cases pr with
      | cons p1 p2 p3 =>
        dsimp only at p1 p2
        cases e1 : toPy d with
        | none => rw [e1] at e; cases e
        | some q =>
          cases e2 : toPyK ds with
          | none => rw [e1, e2] at e; cases e
          | some qs =>
            rw [e1, e2] at e
            cases e
            obtain ⟨as, a1, a2⟩ := reads_of hC I sub d w _ q h1 e1 r1
            obtain ⟨bs, cs, b1, c1, b2, c2⟩ := readsK_of hC I sub ds t _ _ qs h2 e2 r2 p3
            obtain ⟨ks, k1, k2⟩ := key_reads (h := s.heap) p1
            refine ⟨ks ++ bs, as ++ cs, .cons k1 b1, ?_, fun hm => (List.mem_append.mp hm).elim k2 b2, fun hm => (List.mem_append.mp hm).elim a2 c2⟩
            have a1' := a1
            rw [← p2] at a1'
            exact .cons a1' c1
end
end
def rRepr (C : Cn) : List V → Hp → VK → Prop := fun xs H Q => ∃ x G d p, xs = [x] ∧ Sub G H ∧ DV C.b G H d x ∧ toPy d = some p ∧ p.showable = true ∧ p.shown.length ≤ 16777216 ∧ p.depth ≤ 40 ∧ Q (.str p.shown) H
theorem dv_reads {X : Cx} {C : Cn} {pins : List (Addr × Obj)} {σ : St} {G H : Hp} {s : Shared} (hC : Ct X C) (I : Inv X pins σ H s) (sub : Sub G H) {d : D} {v : V} {u : Value} {p : PyData} (h : DV C.b G H d v) (e : toPy d = some p) (r : RelV v u) : ∃ as, Reads s.heap u p as ∧ sysModules ∉ as := by
  rcases h with h | ⟨a, rfl, h⟩
  · exact reads_of hC I sub d v u p h e r
  · -- an owned thing reads as a frozen one would
    cases d <;> simp only [ownAt] at h
    · obtain ⟨vs, h1, h2⟩ := h
      rename_i xs
      have sH : Sub G H := sub
      obtain rfl : u = Value.ref a := r
      unfold toPy at e
      cases e1 : toPyL xs with
      | none => rw [e1] at e; cases e
      | some ps =>
        rw [e1] at e
        cases e
        obtain ⟨z, its, n, rv, ho⟩ : ObjOk X.prog X.w H s.heap a (.lst vs) := I.hok a _ h1
        obtain ⟨as, ra, na⟩ := readsL_of hC I sub xs vs its ps h2 e1 rv
        refine ⟨a :: as, .list ho rfl rfl (by simpa using ra), fun hm => ?_⟩
        rcases List.mem_cons.mp hm with e | hm
        · exact ne_sys hC I h1 e.symm
        · exact na hm
    · obtain ⟨ws, h1, h2⟩ := h
      rename_i kvs
      obtain rfl : u = Value.ref a := r
      unfold toPy at e
      cases e1 : toPyK kvs with
      | none => rw [e1] at e; cases e
      | some ps =>
        rw [e1] at e
        cases e
        obtain ⟨z, ns, vs, rv, o, es, ep, ho, hx, hd, hk, hp, hnd⟩ : ObjOk X.prog X.w H s.heap a (.dK ws) := I.hok a _ h1
        obtain ⟨as, bs, ra, rb, na, nb⟩ := readsK_of hC I sub kvs ws vs es.toList ps h2 e1 rv hp
        refine ⟨a :: as ++ bs, .dict ho hx.1 hd ra rb, fun hm => ?_⟩
        rcases List.mem_append.mp hm with hm | hm
        · rcases List.mem_cons.mp hm with e | hm
          · exact ne_sys hC I h1 e.symm
          · exact na hm
        · exact nb hm
theorem call_repr {X : Cx} {C : Cn} {k : Nat} (hC : Ct X C) (hr : Room k X.A) : CallR X (.builtin "repr") (rRepr C) := by
  intro pins s σ H xs us Q I r h
  obtain ⟨x, G, d, p, rfl, sub, dv, e, hs, hz, hdp, q⟩ := h
  obtain ⟨u, rfl, r1⟩ := vals1 r
  obtain ⟨as, rd, na⟩ := dv_reads hC I sub dv e r1
  have hz' : p.shown.length ≤ sizeLine := by rw [sz_eq]; exact hz
  have un := hr.units
  cases rd with
  | none => exact PySem.P.repr_of_none ⟨.str _, H, I.tok _, ⟨_, rfl⟩, q⟩
  | bool b => exact PySem.P.repr_of_bool ⟨.str _, H, I.tok _, ⟨_, by simp only [PyData.shown]; cases b <;> rfl⟩, q⟩
  | int i t => exact PySem.P.repr_of_int (of_decide_eq_true hs) ⟨.str _, H, I.tok _, ⟨_, rfl⟩, q⟩
  | str z t => exact PySem.P.repr_of_str ⟨.str _, H, I.tok _, ⟨_, rfl⟩, q⟩ hz'
  | list h1 h2 h3 h4 =>
    exact repr_of_reads' (.list h1 h2 h3 h4) hs (fun _ => na) hC.gd (by omega) (fun _ _ z => z) (fun h' u tk k' => ⟨.str _, H, I.kept k', ⟨_, rfl⟩, q⟩) hz'
  | tuple h1 h2 h3 h4 =>
    exact repr_of_reads' (.tuple h1 h2 h3 h4) hs (fun _ => na) hC.gd (by omega) (fun _ _ z => z) (fun h' u tk k' => ⟨.str _, H, I.kept k', ⟨_, rfl⟩, q⟩) hz'
  | dict h1 h2 h3 h4 h5 =>
    exact repr_of_reads' (.dict h1 h2 h3 h4 h5) hs (fun _ => na) hC.gd (by omega) (fun _ _ z => z) (fun h' u tk k' => ⟨.str _, H, I.kept k', ⟨_, rfl⟩, q⟩) hz'
theorem reprD {C : Cn} : CallD C reprF (rRepr C) := by
  intro Y G σ H ρ Q xs ds o E p hf af
  unfold reprF at hf
  split at hf
  · rename_i d
    cases e : toPy d with
    | none => rw [e] at hf; cases hf
    | some q =>
      rw [e] at hf
      dsimp only at hf
      split at hf
      · rename_i hz
        cases hf
        obtain ⟨v, rfl, h⟩ := pd1 p
        exact ⟨v, G, d, q, rfl, E.sub, h, e, hz.1, hz.2.1, hz.2.2, af.str E⟩
      · cases hf
  · cases hf
end DL

set_option Elab.async false
set_option linter.all false
set_option maxRecDepth 100000
set_option maxHeartbeats 1000000
/-! The data layer: stores, targets, simple statements, methods of owned lists. -/
namespace DL
open PySem PySem.Spec L2
open PyProof.Rows hiding St

/-! ### stores -/
/-- slot i may be written: it is no parameter, or holds nothing that could have been borrowed -/
def okSet (np i : Nat) (ρ : DEnv) : Bool := decide (np ≤ i) || match ρ[i]? with
  | some (some (_, d)) => !isCont d
  | _ => true
section
variable {C : Cn} {Y : Gr} {G : Hp} {σ : St} {H : Hp} {ρ ρ' : DEnv} {p : Addr} {v : V} {d : D} {i : Nat}
theorem ED.nob (E : ED C Y G σ H ρ) (ok : okSet C.np i ρ = true) : ∀ p, (i, p) ∉ Y.B := fun p hb => by
  obtain ⟨h1, hn, b, d, h2, hc, h3⟩ := E.bor i p hb
  unfold okSet at ok
  rw [h2, decide_eq_false (by omega)] at ok
  simp [hc] at ok
theorem setσ {σ : St} {i j : Nat} {x : Option V} : (σ.set i x)[j]? = if j = i then (if i < σ.length then some x else none) else σ[j]? := by
  by_cases h : j = i
  · subst h
    rw [if_pos rfl]
    by_cases hl : j < σ.length
    · rw [if_pos hl, List.getElem?_set_self hl]
    · rw [if_neg hl, List.getElem?_eq_none (by simpa using hl)]
  · rw [if_neg h, List.getElem?_set_ne (Ne.symm h)]
theorem ED.lt (E : ED C Y G σ H ρ) {x y : Slot} (h : (ρ.set i x)[i]? = some y) : i < σ.length := by
  rw [← E.len]
  by_cases hl : i < ρ.length
  · exact hl
  · rw [List.getElem?_eq_none (by simpa using hl)] at h; cases h
/-- a frozen value is stored -/
theorem ED.putF (E : ED C Y G σ H ρ) (ok : okSet C.np i ρ = true) (hd : den C.b G d v) : ED C Y G (σ.set i (some v)) H (ρ.set i (some (false, d))) := by
  have nb := E.nob ok
  refine ⟨E.sub, fun j e h => ?_, fun j e h => ?_, fun j k e e' q hjk h1 h2 h3 h4 => ?_, by rw [List.length_set, List.length_set]; exact E.len, fun j q hq => ?_, E.old, E.fz, E.g0, E.tb, E.gt⟩
  · rcases set_get h with ⟨rfl, q⟩ | ⟨hj, q⟩
    · cases q
      exact ⟨v, by rw [setσ, if_pos rfl, if_pos (E.lt h)], hd⟩
    · obtain ⟨w, w1, w2⟩ := E.frz j e q
      exact ⟨w, by rw [setσ, if_neg hj]; exact w1, w2⟩
  · rcases set_get h with ⟨rfl, q⟩ | ⟨hj, q⟩
    · cases q
    · obtain ⟨r, r1, r2⟩ := E.own j e q
      exact ⟨r, by rw [setσ, if_neg hj]; exact r1, r2⟩
  · rcases set_get h1 with ⟨rfl, q1⟩ | ⟨hj, q1⟩
    · cases q1
    · rcases set_get h2 with ⟨rfl, q2⟩ | ⟨hk, q2⟩
      · cases q2
      · rw [setσ, if_neg hj] at h3
        rw [setσ, if_neg hk] at h4
        exact E.ap j k e e' q hjk q1 q2 h3 h4
  · obtain ⟨h1, hn, b, d', h2, hc, h3⟩ := E.bor j q hq
    have hj : j ≠ i := fun z => nb q (z ▸ hq)
    exact ⟨by rw [setσ, if_neg hj]; exact h1, hn, b, d', by rw [List.getElem?_set_ne (Ne.symm hj)]; exact h2, hc, h3⟩
/-- a fresh thing that is owned is stored -/
theorem ED.putO (E : ED C Y G σ H ρ) (ok : okSet C.np i ρ = true) (gn : G p = none) (o : ownAt C.b G H p d) (h0 : Y.H0 p = none) (nr : ∀ (i : Nat) (e : D), ρ[i]? = some (some (true, e)) → σ[i]? ≠ some (some (.ref p))) :
    ED C Y G (σ.set i (some (.ref p))) H (ρ.set i (some (true, d))) := by
  have nb := E.nob ok
  refine ⟨E.sub, fun j e h => ?_, fun j e h => ?_, fun j k e e' q hjk h1 h2 h3 h4 => ?_, by rw [List.length_set, List.length_set]; exact E.len, fun j q hq => ?_, E.old, E.fz, E.g0, E.tb, E.gt⟩
  · rcases set_get h with ⟨rfl, q⟩ | ⟨hj, q⟩
    · cases q
    · obtain ⟨w, w1, w2⟩ := E.frz j e q
      exact ⟨w, by rw [setσ, if_neg hj]; exact w1, w2⟩
  · rcases set_get h with ⟨rfl, q⟩ | ⟨hj, q⟩
    · cases q
      exact ⟨p, by rw [setσ, if_pos rfl, if_pos (E.lt h)], gn, o, .inl h0⟩
    · obtain ⟨r, r1, r2⟩ := E.own j e q
      exact ⟨r, by rw [setσ, if_neg hj]; exact r1, r2⟩
  · rw [setσ] at h3 h4
    rcases set_get h1 with ⟨rfl, q1⟩ | ⟨hj, q1⟩
    · rcases set_get h2 with ⟨rfl, q2⟩ | ⟨hk, q2⟩
      · exact hjk rfl
      · rw [if_pos rfl, if_pos (E.lt h1)] at h3
        rw [if_neg hk] at h4
        cases h3
        exact nr k e' q2 h4
    · rcases set_get h2 with ⟨rfl, q2⟩ | ⟨hk, q2⟩
      · rw [if_pos rfl, if_pos (E.lt h2)] at h4
        rw [if_neg hj] at h3
        cases h4
        exact nr j e q1 h3
      · rw [if_neg hj] at h3
        rw [if_neg hk] at h4
        exact E.ap j k e e' q hjk q1 q2 h3 h4
  · obtain ⟨h1, hn, b, d', h2, hc, h3⟩ := E.bor j q hq
    have hj : j ≠ i := fun z => nb q (z ▸ hq)
    exact ⟨by rw [setσ, if_neg hj]; exact h1, hn, b, d', by rw [List.getElem?_set_ne (Ne.symm hj)]; exact h2, hc, h3⟩
/-- a slot is forgotten -/
theorem ED.drop (E : ED C Y G σ H ρ) (ok : okSet C.np i ρ = true) (x : Option V) : ED C Y G (σ.set i x) H (ρ.set i none) := by
  have nb := E.nob ok
  have ne : ∀ {j : Nat} {y : Bool × D}, (ρ.set i none)[j]? = some (some y) → j ≠ i ∧ ρ[j]? = some (some y) := fun {j y} h => by
    rcases set_get h with ⟨_, q⟩ | ⟨hj, q⟩
    · cases q
    · exact ⟨hj, q⟩
  refine ⟨E.sub, fun j e h => ?_, fun j e h => ?_, fun j k e e' q hjk h1 h2 h3 h4 => ?_, by rw [List.length_set, List.length_set]; exact E.len, fun j q hq => ?_, E.old, E.fz, E.g0, E.tb, E.gt⟩
  · obtain ⟨hj, q⟩ := ne h
    obtain ⟨w, w1, w2⟩ := E.frz j e q
    exact ⟨w, by rw [setσ, if_neg hj]; exact w1, w2⟩
  · obtain ⟨hj, q⟩ := ne h
    obtain ⟨r, r1, r2⟩ := E.own j e q
    exact ⟨r, by rw [setσ, if_neg hj]; exact r1, r2⟩
  · obtain ⟨hj, q1⟩ := ne h1
    obtain ⟨hk, q2⟩ := ne h2
    rw [setσ, if_neg hj] at h3
    rw [setσ, if_neg hk] at h4
    exact E.ap j k e e' q hjk q1 q2 h3 h4
  · obtain ⟨h1, hn, b, d', h2, hc, h3⟩ := E.bor j q hq
    have hj : j ≠ i := fun z => nb q (z ▸ hq)
    exact ⟨by rw [setσ, if_neg hj]; exact h1, hn, b, d', by rw [List.getElem?_set_ne (Ne.symm hj)]; exact h2, hc, h3⟩
/-- .. the value behind it stays -/
theorem ED.drop' (E : ED C Y G σ H ρ) (ok : okSet C.np i ρ = true) : ED C Y G σ H (ρ.set i none) := by
  have h := E.drop ok (σ[i]?.getD none)
  have : σ.set i (σ[i]?.getD none) = σ := by
    apply List.ext_getElem?
    intro j
    rw [setσ]
    by_cases hj : j = i
    · subst hj
      rw [if_pos rfl]
      by_cases hl : j < σ.length
      · rw [if_pos hl, List.getElem?_eq_getElem hl]; rfl
      · rw [if_neg hl, List.getElem?_eq_none (by omega)]
    · rw [if_neg hj]
  rw [this] at h
  exact h
end
/-- what is stored of an operand -/
def rsv (o : Opd) (ρ : DEnv) : Option (Opd × DEnv) := match o with
  | .slot i => (takeO (.slot i) ρ).map fun z => (.val z.1, z.2)
  | o => some (o, ρ)
def asg (np i : Nat) (o : Opd) (ρ : DEnv) : Option DEnv := match o with
  | .val d => if okSet np i ρ then some (ρ.set i (some (false, d))) else none
  | .own d => if okSet np i ρ then some (ρ.set i (some (true, d))) else none
  | .slot _ => none
section
variable {C : Cn} {Y : Gr} {G : Hp} {σ : St} {H : Hp} {ρ ρ' : DEnv} {v : V} {o o' : Opd} {i : Nat}
theorem rsv_ok (E : ED C Y G σ H ρ) (od : OD C Y G σ H ρ o v) (h : rsv o ρ = some (o', ρ')) : ∃ G', Sub G G' ∧ ED C Y G' σ H ρ' ∧ OD C Y G' σ H ρ' o' v := by
  cases o with
  | val d => cases h; exact ⟨G, Sub.rfl, E, od⟩
  | own d => cases h; exact ⟨G, Sub.rfl, E, od⟩
  | slot j =>
    unfold rsv at h
    dsimp only at h
    cases e : takeO (.slot j) ρ with
    | none => rw [e] at h; cases h
    | some z =>
      obtain ⟨d, ρ2⟩ := z
      rw [e] at h
      cases h
      obtain ⟨G', s', E', d'⟩ := takeO_ok E od e
      exact ⟨G', s', E', d'⟩
theorem asg_ok (E : ED C Y G σ H ρ) (od : OD C Y G σ H ρ o v) (h : asg C.np i o ρ = some ρ') : ED C Y G (σ.set i (some v)) H ρ' := by
  cases o with
  | val d =>
    unfold asg at h
    dsimp only at h
    split at h
    · rename_i ok; cases h; exact E.putF ok od
    · cases h
  | own d =>
    unfold asg at h
    dsimp only at h
    split at h
    · rename_i ok
      cases h
      obtain ⟨p, rfl, gn, oa, h0, nr⟩ := od
      exact E.putO ok gn oa h0 nr
    · cases h
  | slot j => cases h
end

/-! ### statements -/
def sSeq (a b : M Fl) : M Fl := fun ρ => (a ρ).bind fun f ρ1 => match f with
  | .nx => b ρ1
  | f => .ok f ρ1
def sNil : M Fl := fun ρ => .ok .nx ρ
def sAsg (np i : Nat) (f : M Opd) : M Fl := fun ρ => (f ρ).bind fun o ρ1 => match rsv o ρ1 with
  | some (o', ρ2) => match asg np i o' ρ2 with
    | some ρ3 => .ok .nx ρ3
    | none => .bad
  | none => .bad
def sExpr (f : M Opd) : M Fl := fun ρ => (f ρ).bind fun _ ρ1 => .ok .nx ρ1
def sIf (t : M Bool) (a b : M Fl) : M Fl := fun ρ => (t ρ).bind fun c ρ1 => if c then a ρ1 else b ρ1
/-- what a def hands back -/
def retO (np : Nat) (o : Opd) (ρ : DEnv) : Option (Opd × DEnv) := match o with
  | .slot i => match ρ[i]? with
    | some (some (true, d)) => if np ≤ i then some (.own d, ρ.set i none) else (takeO (.slot i) ρ).map fun z => (.val z.1, z.2)
    | _ => (takeO (.slot i) ρ).map fun z => (.val z.1, z.2)
  | o => some (o, ρ)
def sRet (np : Nat) (f : M Opd) : M Fl := fun ρ => (f ρ).bind fun o ρ1 => match retO np o ρ1 with
  | some (o', ρ2) => .ok (.rt o') ρ2
  | none => .bad
def sRetN : M Fl := fun ρ => .ok (.rt (.val .non)) ρ
def sPass : M Fl := fun ρ => .ok .nx ρ
def sBrk : M Fl := fun ρ => .ok .bk ρ
def sCont : M Fl := fun ρ => .ok .ct ρ
section
variable {X : Cx} {C : Cn} {W : WX} {e : Expr} {f : M Opd} {t : M Bool} {a b : M Fl} {st : Stmt} {rest as bs : List Stmt} {pos pos' : Pos}
theorem dss_nil : PSs X [] (tS C W sNil) := PSs.st pss_nil fun N σ H h => by
  obtain ⟨Y, G, ρ, E, p⟩ := h
  exact p G σ H Sub.rfl E
/-- a statement, then what follows -/
theorem seqS {Y : Gr} {G : Hp} {σ : St} {H : Hp} {ρ : DEnv} {N : Ends} {k : M Fl} (E : ED C Y G σ H ρ) (p : PostS C W N Y G ((a ρ).bind fun f ρ1 => match f with | .nx => k ρ1 | f => .ok f ρ1)) {S : St → Hp → Prop}
    (h : ∀ G' σ1 H1 ρ1, Sub G G' → ED C Y G' σ1 H1 ρ1 → PostS C W N Y G' (k ρ1) → S σ1 H1) : tS C W a { N with nx := S } σ H := by
  refine ⟨Y, G, ρ, E, ?_⟩
  cases hf : a ρ with
  | bad => rw [hf] at p; exact p
  | exc c d ρ1 => rw [hf] at p; exact p
  | ok fl ρ1 =>
    rw [hf] at p
    cases fl with
    | nx => exact fun G' σ' H' s E' => h G' σ' H' ρ1 s E' (p.mono s)
    | bk => exact p
    | ct => exact p
    | rt o => exact p
theorem dss_cons (h1 : PS X st (tS C W a)) (h2 : PSs X rest (tS C W b)) : PSs X (st :: rest) (tS C W (sSeq a b)) := PSs.st (pss_cons h1 h2) fun N σ H h => by
  obtain ⟨Y, G, ρ, E, p⟩ := h
  exact seqS E p fun G' σ1 H1 ρ1 s E1 p1 => ⟨Y, G', ρ1, E1, p1⟩
theorem dss_one (h1 : PS X st (tS C W a)) : PSs X [st] (tS C W a) := pss_one h1
theorem ds_set {i : Nat} {x : Str} (hN : X.N.Nodup) (hi : X.N[i]? = some x) (hx : Loc X.env.scope x) (he : PE X e (tE C W f)) (hs : swapsWith e (some (.Name x pos')) pos.line X.env = pure false := by rfl) (hf : X.fn x = true ∨ X.env.scope.names.lookup x = some .local := by first | exact .inl rfl | exact .inr rfl | assumption) :
    PS X (.Assign [.Name x pos'] e pos) (tS C W (sAsg C.np i f)) := PS.st (ps_set hN hi hx he hs hf) fun N σ H h => by
  obtain ⟨Y, G, ρ, E, p⟩ := h
  refine seq0 (C := C) (PostS.lk (σ := σ)) E p fun G1 H1 ρ1 o v s1 E1 od p1 => ?_
  cases e1 : rsv o ρ1 with
  | none => rw [e1] at p1; exact p1.elim
  | some z =>
    obtain ⟨o', ρ2⟩ := z
    rw [e1] at p1
    obtain ⟨G2, s2, E2, od2⟩ := rsv_ok E1 od e1
    dsimp only at p1
    cases e2 : asg C.np i o' ρ2 with
    | none => rw [e2] at p1; exact p1.elim
    | some ρ3 =>
      rw [e2] at p1
      exact p1 G2 _ H1 s2 (asg_ok E2 od2 e2)
theorem ds_expr (he : PE X e (tE C W f)) (hs : swapsWith e none pos.line X.env = pure false := by rfl) : PS X (.Expr e pos) (tS C W (sExpr f)) := PS.st (ps_expr he hs) fun N σ H h => by
  obtain ⟨Y, G, ρ, E, p⟩ := h
  refine seq0 (C := C) (PostS.lk (σ := σ)) E p fun G1 H1 ρ1 o v s1 E1 od p1 => ?_
  exact p1 G1 σ H1 Sub.rfl E1
theorem ds_if {c : Expr} (hc : PT X c (tT C W t)) (ha : PSs X as (tS C W a)) (hb : PSs X bs (tS C W b)) : PS X (.If c as bs pos) (tS C W (sIf t a b)) := PS.st (ps_if hc ha hb) fun N σ H h => by
  obtain ⟨Y, G, ρ, E, p⟩ := h
  refine seqT (C := C) (PostS.lk (σ := σ)) E p fun G1 H1 ρ1 c s1 E1 p1 => ?_
  cases c with
  | true => exact ⟨Y, G1, ρ1, E1, p1⟩
  | false => exact ⟨Y, G1, ρ1, E1, p1⟩
theorem ds_pass : PS X (.Pass pos) (tS C W sPass) := PS.st ps_pass fun N σ H h => by
  obtain ⟨Y, G, ρ, E, p⟩ := h
  exact p G σ H Sub.rfl E
theorem ds_break : PS X (.Break pos) (tS C W sBrk) := PS.st ps_break fun N σ H h => by
  obtain ⟨Y, G, ρ, E, p⟩ := h
  exact p G σ H Sub.rfl E
theorem ds_continue : PS X (.Continue pos) (tS C W sCont) := PS.st ps_continue fun N σ H h => by
  obtain ⟨Y, G, ρ, E, p⟩ := h
  exact p G σ H Sub.rfl E
theorem ds_retN : PS X (.Return none pos) (tS C W sRetN) := PS.st ps_retN fun N σ H h => by
  obtain ⟨Y, G, ρ, E, p⟩ := h
  exact p G σ H .non Sub.rfl E (by unfold OD den; rfl)
theorem retO_ok {Y : Gr} {G : Hp} {σ : St} {H : Hp} {ρ ρ' : DEnv} {v : V} {o o' : Opd} (E : ED C Y G σ H ρ) (od : OD C Y G σ H ρ o v) (h : retO C.np o ρ = some (o', ρ')) : ∃ G', Sub G G' ∧ ED C Y G' σ H ρ' ∧ OD C Y G' σ H ρ' o' v := by
  have viaT : ∀ {i : Nat}, o = .slot i → (takeO (.slot i) ρ).map (fun z => ((.val z.1 : Opd), z.2)) = some (o', ρ') → ∃ G', Sub G G' ∧ ED C Y G' σ H ρ' ∧ OD C Y G' σ H ρ' o' v := fun {i} hi h => by
    cases e : takeO (.slot i) ρ with
    | none => rw [e] at h; cases h
    | some z =>
      obtain ⟨d, ρ2⟩ := z
      rw [e] at h
      cases h
      obtain ⟨G', s', E', d'⟩ := takeO_ok E (hi ▸ od) e
      exact ⟨G', s', E', d'⟩
  cases o with
  | val d => cases h; exact ⟨G, Sub.rfl, E, od⟩
  | own d => cases h; exact ⟨G, Sub.rfl, E, od⟩
  | slot i =>
    unfold retO at h
    dsimp only at h
    split at h
    · rename_i d hr
      split at h
      · rename_i hnp
        cases h
        obtain ⟨p, h1, gn, oa, hB⟩ := E.own i d hr
        have od' : σ[i]? = some (some v) := od
        rw [od'] at h1; cases h1
        have ok : okSet C.np i ρ = true := by unfold okSet; rw [decide_eq_true hnp]; rfl
        refine ⟨G, Sub.rfl, E.drop' ok, p, rfl, gn, oa, hB.elim id fun z => absurd z (E.nob ok p), fun j e' hj hp => ?_⟩
        rcases set_get hj with ⟨_, q⟩ | ⟨hji, q⟩
        · cases q
        · exact E.ap j i e' d p hji q hr hp od'
      · exact viaT rfl h
    · exact viaT rfl h
theorem ds_ret (he : PE X e (tE C W f)) : PS X (.Return (some e) pos) (tS C W (sRet C.np f)) := PS.st (ps_ret he) fun N σ H h => by
  obtain ⟨Y, G, ρ, E, p⟩ := h
  refine seq0 (C := C) (PostS.lk (σ := σ)) E p fun G1 H1 ρ1 o v s1 E1 od p1 => ?_
  cases e1 : retO C.np o ρ1 with
  | none => rw [e1] at p1; exact p1.elim
  | some z =>
    obtain ⟨o', ρ2⟩ := z
    rw [e1] at p1
    obtain ⟨G2, s2, E2, od2⟩ := retO_ok E1 od e1
    exact p1 G2 σ H1 v s2 E2 od2
end

/-! ### targets -/
abbrev Tg := D → DEnv → Option DEnv
def tgN (np i : Nat) : Tg := fun d ρ => if okSet np i ρ then some (ρ.set i (some (false, d))) else none
def tgGo : List Tg → List D → DEnv → Option DEnv
  | [], [], ρ => some ρ
  | t :: ts, d :: ds, ρ => (t d ρ).bind fun ρ1 => tgGo ts ds ρ1
  | _, _, _ => none
def tgT (n : Nat) (ts : List Tg) : Tg := fun d ρ => match d with
  | .tup ds => if ds.length = n then tgGo ts ds ρ else none
  | _ => none
/-- the slots outside is stand as they stood -/
def Keep (is : List Nat) (σ σ' : St) : Prop := σ'.length = σ.length ∧ ∀ i, i ∉ is → σ'[i]? = σ[i]?
theorem Keep.rfl {is : List Nat} {σ : St} : Keep is σ σ := ⟨Eq.refl _, fun _ _ => Eq.refl _⟩
theorem Keep.trans {is js : List Nat} {σ σ' σ'' : St} (a : Keep is σ σ') (b : Keep js σ' σ'') : Keep (is ++ js) σ σ'' := ⟨b.1.trans a.1, fun i hi => (b.2 i (fun z => hi (List.mem_append_right _ z))).trans (a.2 i fun z => hi (List.mem_append_left _ z))⟩
def tG (C : Cn) (is : List Nat) (t : Tg) : TG := fun v σ H Q => ∃ Y G ρ d ρ', ED C Y G σ H ρ ∧ den C.b G d v ∧ t d ρ = some ρ' ∧ ∀ σ', Keep is σ σ' → ED C Y G σ' H ρ' → Q σ' H
def tGs (C : Cn) (is : List Nat) (ts : List Tg) : TGs := fun vs σ H Q => ∃ Y G ρ ds ρ', ED C Y G σ H ρ ∧ denL C.b G ds vs ∧ tgGo ts ds ρ = some ρ' ∧ ∀ σ', Keep is σ σ' → ED C Y G σ' H ρ' → Q σ' H
theorem PG.st {X : Cx} {e : Expr} {t t' : TG} (h : PG X e t) (i : ∀ v σ H Q, t' v σ H Q → t v σ H Q) : PG X e t' := ⟨fun pins s σ H v u Q I r q => h.run pins s σ H v u Q I r (i v σ H Q q)⟩
theorem PGs.st {X : Cx} {e : List Expr} {t t' : TGs} (h : PGs X e t) (i : ∀ v σ H Q, t' v σ H Q → t v σ H Q) : PGs X e t' := ⟨fun pins s σ H v u Q I r q => h.run pins s σ H v u Q I r (i v σ H Q q)⟩
section
variable {X : Cx} {C : Cn} {e : Expr} {es : List Expr} {t : Tg} {ts : List Tg} {is js : List Nat} {pos : Pos}
theorem dg_name {i : Nat} {x : Str} (hN : X.N.Nodup) (hi : X.N[i]? = some x) (hx : Loc X.env.scope x) (hf : X.fn x = true ∨ X.env.scope.names.lookup x = some .local := by first | exact .inl rfl | exact .inr rfl | assumption) : PG X (.Name x pos) (tG C [i] (tgN C.np i)) :=
  PG.st (pg_name hN hi hx hf) fun v σ H Q q => by
    obtain ⟨Y, G, ρ, d, ρ', E, dn, ht, h⟩ := q
    unfold tgN at ht
    split at ht
    · rename_i ok
      cases ht
      exact h _ ⟨List.length_set, fun j hj => by rw [setσ, if_neg (by simpa using hj)]⟩ (E.putF ok dn)
    · cases ht
theorem dgs_nil : PGs X [] (tGs C [] []) := PGs.st pgs_nil fun vs σ H Q q => by
  obtain ⟨Y, G, ρ, ds, ρ', E, dn, ht, h⟩ := q
  cases ds with
  | nil =>
    cases ht
    unfold denL at dn
    exact ⟨dn, h σ Keep.rfl E⟩
  | cons _ _ => cases ht
theorem dgs_cons (h1 : PG X e (tG C is t)) (h2 : PGs X es (tGs C js ts)) (hs : (assignEach (e :: es) X.env).map (·.2) = assign e X.env :: (assignEach es X.env).map (·.2) := by rfl) : PGs X (e :: es) (tGs C (is ++ js) (t :: ts)) :=
  PGs.st (pgs_cons h1 h2 hs) fun vs σ H Q q => by
    obtain ⟨Y, G, ρ, ds, ρ', E, dn, ht, h⟩ := q
    cases ds with
    | nil => cases ht
    | cons d ds =>
      unfold denL at dn
      obtain ⟨v, r, rfl, d1, d2⟩ := dn
      unfold tgGo at ht
      cases e1 : t d ρ with
      | none => rw [e1] at ht; cases ht
      | some ρ1 =>
        rw [e1] at ht
        exact ⟨v, r, rfl, Y, G, ρ, d, ρ1, E, d1, e1, fun σ1 k1 E1 => ⟨Y, G, ρ1, ds, ρ', E1, d2, ht, fun σ2 k2 E2 => h σ2 (k1.trans k2) E2⟩⟩
theorem dg_tup {k : Nat} {n : Nat} (hK : C.b.K = X.K) (hc : X.calm = true) (h : PGs X es (tGs C is ts)) (hn : (assignEach es X.env).length = n := by rfl) (hst : (assignEach es X.env).findIdx? (·.1) = none := by rfl) : PG X (.Tuple es k pos) (tG C is (tgT n ts)) :=
  PG.st (pg_tup hc h hn hst) fun v σ H Q q => by
    obtain ⟨Y, G, ρ, d, ρ', E, dn, ht, hh⟩ := q
    unfold tgT at ht
    split at ht
    · rename_i ds
      split at ht
      · rename_i hl
        unfold den at dn
        obtain ⟨a, vs, rfl, h1, h2⟩ := dn
        exact ⟨a, vs, rfl, by rw [← hK]; exact E.sub.sqT h1, by rw [← h2.len]; exact hl, Y, G, ρ, ds, ρ', E, h2, ht, hh⟩
      · cases ht
    · cases ht
end
/-- target = e -/
def sAsgT (t : Tg) (f : M Opd) : M Fl := fun ρ => (f ρ).bind fun o ρ1 => match takeO o ρ1 with
  | some (d, ρ2) => match t d ρ2 with
    | some ρ3 => .ok .nx ρ3
    | none => .bad
  | none => .bad
theorem ds_asg {X : Cx} {C : Cn} {W : WX} {tg e : Expr} {f : M Opd} {t : Tg} {is : List Nat} {pos : Pos} (he : PE X e (tE C W f)) (hg : PG X tg (tG C is t)) (hs : swapsWithSole [tg] e pos.line X.env = pure false := by rfl) (hw : swappedStores [tg] e X.env = pure none := by rfl)
    (h1 : (assignEach [tg] X.env).map (·.2) = [assign tg X.env] := by rfl) : PS X (.Assign [tg] e pos) (tS C W (sAsgT t f)) := PS.st (ps_asg he hg hs hw h1) fun N σ H h => by
  obtain ⟨Y, G, ρ, E, p⟩ := h
  refine seq0 (C := C) (PostS.lk (σ := σ)) E p fun G1 H1 ρ1 o v s1 E1 od p1 => ?_
  cases e1 : takeO o ρ1 with
  | none => rw [e1] at p1; exact p1.elim
  | some z =>
    obtain ⟨d, ρ2⟩ := z
    rw [e1] at p1
    obtain ⟨G2, s2, E2, dn⟩ := takeO_ok E1 od e1
    dsimp only at p1
    cases e2 : t d ρ2 with
    | none => rw [e2] at p1; exact p1.elim
    | some ρ3 =>
      rw [e2] at p1
      exact ⟨Y, G2, ρ2, d, ρ3, E2, dn, e2, fun σ' _ E' => p1 G2 σ' H1 s2 E'⟩
end DL

set_option Elab.async false
set_option linter.all false
set_option maxRecDepth 100000
set_option maxHeartbeats 1000000
/-! The data layer: what is walked, for, while, list comprehensions. -/
namespace DL
open PySem PySem.Spec L2
open PyProof.Rows hiding St

/-- an iterator that yields the data ds, whatever the frame does -/
structure ItD (C : Cn) (G : Hp) (ds : List D) (J : It) : Prop where
  go : ∀ i H, Sub G H → i < ds.length → J.go i H
  yld : ∀ i x H H', Sub G H → i < ds.length → J.yld i H x H' → ∃ d, ds[i]? = some d ∧ ∀ (Y : Gr) (σ : St) (ρ : DEnv) (G1 : Hp), Sub G G1 → ED C Y G1 σ H ρ → ∃ G2, Sub G1 G2 ∧ ED C Y G2 σ H' ρ ∧ den C.b G2 d x
  stop : ∀ i H, Sub G H → ds.length ≤ i → J.stop i H
theorem ItD.mono {C : Cn} {G G' : Hp} {ds : List D} {J : It} (h : ItD C G ds J) (s : Sub G G') : ItD C G' ds J :=
  ⟨fun i H q => h.go i H (s.trans q), fun i x H H' q hi hy => by
    obtain ⟨d, e, k⟩ := h.yld i x H H' (s.trans q) hi hy
    exact ⟨d, e, fun Y σ ρ G1 s1 => k Y σ ρ G1 (s.trans s1)⟩, fun i H q => h.stop i H (s.trans q)⟩
def PostI (C : Cn) (W : WX) (S : It → Hp → Prop) (Y : Gr) (G : Hp) (σ : St) : R (List D) → Prop
  | .ok ds ρ => ∀ G' H J, Sub G G' → ED C Y G' σ H ρ → ItD C G' ds J → S J H
  | .exc c d ρ => ∀ T dx G' H, C.b.mg c = some (.ref T) → Sub G G' → ED C Y G' σ H ρ → XD C.b Y G' H dx d → W (.ref T) (some dx) σ H
  | .bad => False
def tI (C : Cn) (W : WX) (f : M (List D)) : TI := fun σ H S => ∃ Y G ρ, ED C Y G σ H ρ ∧ PostI C W S Y G σ (f ρ)
theorem PostI.mono {C : Cn} {W : WX} {Y : Gr} {G G' : Hp} {σ : St} {S : It → Hp → Prop} (h : Sub G G') : ∀ {r : R (List D)}, PostI C W S Y G σ r → PostI C W S Y G' σ r
  | .ok ds ρ, p => fun G2 H v s => p G2 H v (h.trans s)
  | .exc c d ρ, p => fun T dx G2 H hc s => p T dx G2 H hc (h.trans s)
  | .bad, p => p
theorem PostI.lk {C : Cn} {W : WX} {Y : Gr} {σ : St} {S : It → Hp → Prop} : Lk C W Y σ (fun G r => PostI C W S Y G σ r) := ⟨fun s p => p.mono s, fun p => p, fun p => p⟩
theorem PI.st {X : Cx} {tg it : Expr} {t t' : TI} (h : PI X tg it t) (i : ∀ σ H S, t' σ H S → t σ H S) : PI X tg it t' := ⟨fun pins s σ H S I q => h.run pins s σ H S I (i σ H S q)⟩

/-- an operand that is walked is frozen -/
def itO (k : D → Option (List D)) (o : Opd) (ρ : DEnv) : R (List D) := match takeO o ρ with
  | some (d, ρ1) => match k d with
    | some ds => .ok ds ρ1
    | none => .bad
  | none => .bad
def lstK : D → Option (List D)
  | .lst xs => some xs
  | .scr xs => some (xs.map .int)
  | _ => none
def tupK : D → Option (List D)
  | .tup xs => some xs
  | _ => none
def strK : D → Option (List D)
  | .str z => some (z.cps.toList.map fun c => .str ⟨#[c]⟩)
  | _ => none
def iOf (k : D → Option (List D)) (f : M Opd) : M (List D) := fun ρ => (f ρ).bind (itO k)
section
variable {X : Cx} {C : Cn} {W : WX} {tg e : Expr} {f : M Opd} {p pos : Pos}
theorem itO_ok {Y : Gr} {G H : Hp} {σ : St} {ρ : DEnv} {o : Opd} {v : V} {k : D → Option (List D)} (E : ED C Y G σ H ρ) (od : OD C Y G σ H ρ o v) {P : Hp → R (List D) → Prop} (q : P G (itO k o ρ)) (hb : ∀ {G}, P G .bad → False) :
    ∃ d ds ρ1 G1, k d = some ds ∧ Sub G G1 ∧ ED C Y G1 σ H ρ1 ∧ den C.b G1 d v ∧ P G (.ok ds ρ1) := by
  unfold itO at q
  cases e : takeO o ρ with
  | none => rw [e] at q; exact (hb q).elim
  | some z =>
    obtain ⟨d, ρ1⟩ := z
    rw [e] at q
    dsimp only at q
    cases e2 : k d with
    | none => rw [e2] at q; exact (hb q).elim
    | some ds =>
      rw [e2] at q
      obtain ⟨G1, s1, E1, dn⟩ := takeO_ok E od e
      exact ⟨d, ds, ρ1, G1, e2, s1, E1, dn, q⟩
theorem same_yld {Y : Gr} {G1 G2 H : Hp} {σ : St} {ρ : DEnv} {d : D} {x : V} (E : ED C Y G1 σ H ρ) (h : den C.b G1 d x) : ∃ G2, Sub G1 G2 ∧ ED C Y G2 σ H ρ ∧ den C.b G2 d x := ⟨G1, Sub.rfl, E, h⟩
theorem scr_pd (xs : List Int) (G : Hp) : Paired (den C.b G) (xs.map D.int) (xs.map V.int) := by
  induction xs with
  | nil => exact .nil
  | cons x xs ih => exact .cons (by unfold den; rfl) ih
theorem lst_key {K : PySem.W.Frag} (hK : C.b.K = K) {G : Hp} {d : D} {ds : List D} {v : V} (hk : lstK d = some ds) (dn : den C.b G d v) : ∃ a vs, v = .ref a ∧ (∀ H, Sub G H → SqL K H a vs) ∧ Paired (den C.b G) ds vs := by
  subst hK
  cases d with
  | lst xs =>
    cases hk
    unfold den at dn
    obtain ⟨a, vs, rfl, h1, h2⟩ := dn
    exact ⟨a, vs, rfl, fun H s => SqL.of (s _ _ h1), denL_iff.mp h2⟩
  | scr xs =>
    cases hk
    unfold den at dn
    obtain ⟨a, rfl, h1⟩ := dn
    exact ⟨a, _, rfl, fun H s => s.sqL h1, scr_pd xs G⟩
  | _ => cases hk
theorem tup_key {K : PySem.W.Frag} (hK : C.b.K = K) {G : Hp} {d : D} {ds : List D} {v : V} (hk : tupK d = some ds) (dn : den C.b G d v) : ∃ a vs, v = .ref a ∧ (∀ H, Sub G H → SqT K H a vs) ∧ Paired (den C.b G) ds vs := by
  subst hK
  cases d with
  | tup xs =>
    cases hk
    unfold den at dn
    obtain ⟨a, vs, rfl, h1, h2⟩ := dn
    exact ⟨a, vs, rfl, fun H s => s.sqT h1, denL_iff.mp h2⟩
  | _ => cases hk
/-- for .. in a list -/
theorem di_list (hK : C.b.K = X.K) (he : PE X e (tE C W f)) : PI X tg e (tI C W (iOf lstK f)) := PI.st (pi_list he) fun σ H S h => by
  obtain ⟨Y, G, ρ, E, q⟩ := h
  refine seq0 (C := C) PostI.lk E q fun G1 H1 ρ1 o v s1 E1 od p1 => ?_
  obtain ⟨d, ds, ρ2, G2, hk, s2, E2, dn, p2⟩ := itO_ok (P := fun G r => PostI C W S Y G σ r) E1 od p1 (fun z => z)
  obtain ⟨a, vs, rfl, sq, pd⟩ := lst_key hK hk dn
  refine ⟨a, rfl, ⟨vs, sq _ E2.sub⟩, p2 G2 H1 (Itl X.K a) s2 E2 ⟨fun i H s hi => ?_, fun i x H H' s hi hy => ?_, fun i H s hi => ?_⟩⟩
  · have hl := pd.length
    obtain ⟨x, hx⟩ : ∃ x, vs[i]? = some x := ⟨vs[i], List.getElem?_eq_getElem (by omega)⟩
    exact ⟨vs, x, sq _ s, hx⟩
  · obtain ⟨rfl, hx⟩ := hy
    have hx := hx vs (sq _ s)
    obtain ⟨d', h1, h2⟩ := pd_getR pd hx
    exact ⟨d', h1, fun Y' σ' ρ' G3 s3 E3 => ⟨G3, Sub.rfl, E3, den.mono s3 _ _ h2⟩⟩
  · exact ⟨vs, sq _ s, by rw [← pd.length]; exact hi⟩
/-- for .. in a tuple -/
theorem di_tup (hK : C.b.K = X.K) (he : PE X e (tE C W f)) : PI X tg e (tI C W (iOf tupK f)) := PI.st (pi_tup he) fun σ H S h => by
  obtain ⟨Y, G, ρ, E, q⟩ := h
  refine seq0 (C := C) PostI.lk E q fun G1 H1 ρ1 o v s1 E1 od p1 => ?_
  obtain ⟨d, ds, ρ2, G2, hk, s2, E2, dn, p2⟩ := itO_ok (P := fun G r => PostI C W S Y G σ r) E1 od p1 (fun z => z)
  obtain ⟨a, vs, rfl, sq, pd⟩ := tup_key hK hk dn
  refine ⟨a, rfl, ⟨vs, sq _ E2.sub⟩, p2 G2 H1 (Itt X.K a) s2 E2 ⟨fun i H s hi => ?_, fun i x H H' s hi hy => ?_, fun i H s hi => ?_⟩⟩
  · have hl := pd.length
    obtain ⟨x, hx⟩ : ∃ x, vs[i]? = some x := ⟨vs[i], List.getElem?_eq_getElem (by omega)⟩
    exact ⟨vs, x, sq _ s, hx⟩
  · obtain ⟨rfl, hx⟩ := hy
    have hx := hx vs (sq _ s)
    obtain ⟨d', h1, h2⟩ := pd_getR pd hx
    exact ⟨d', h1, fun Y' σ' ρ' G3 s3 E3 => ⟨G3, Sub.rfl, E3, den.mono s3 _ _ h2⟩⟩
  · exact ⟨vs, sq _ s, by rw [← pd.length]; exact hi⟩
/-- for .. in a text -/
theorem di_str (he : PE X e (tE C W f)) : PI X tg e (tI C W (iOf strK f)) := PI.st (pi_str he) fun σ H S h => by
  obtain ⟨Y, G, ρ, E, q⟩ := h
  refine seq0 (C := C) PostI.lk E q fun G1 H1 ρ1 o v s1 E1 od p1 => ?_
  obtain ⟨d, ds, ρ2, G2, hk, s2, E2, dn, p2⟩ := itO_ok (P := fun G r => PostI C W S Y G σ r) E1 od p1 (fun z => z)
  cases d with
  | str z =>
    cases hk
    unfold den at dn
    subst dn
    refine ⟨z, rfl, p2 G2 H1 (Its z) s2 E2 ⟨fun i H s hi => ?_, fun i x H H' s hi hy => ?_, fun i H s hi => ?_⟩⟩
    · show i < z.cps.size
      simpa using hi
    · obtain ⟨rfl, c, hc, rfl⟩ := hy
      refine ⟨.str ⟨#[c]⟩, ?_, fun Y' σ' ρ' G3 s3 E3 => ⟨G3, Sub.rfl, E3, by unfold den; rfl⟩⟩
      rw [List.getElem?_map, Array.getElem?_toList, hc]; rfl
    · show z.cps.size ≤ i
      simpa using hi
  | _ => cases hk
/-- for .. in range(e) -/
def rngL (lo : Int) (n : Nat) : List D := (List.range n).map fun i => .int (lo + (i : Nat))
def iRng (fs : List (M Opd)) : M (List D) := fun ρ => (eA fs ρ).bind fun os ρ1 => match looks os ρ1 with
  | some [.int j] => if -(2 ^ 62) ≤ j ∧ j < 2 ^ 62 then .ok (rngL 0 j.toNat) ρ1 else .bad
  | _ => .bad
def iRng2 (fs : List (M Opd)) : M (List D) := fun ρ => (eA fs ρ).bind fun os ρ1 => match looks os ρ1 with
  | some [.int i, .int j] => if -(2 ^ 62) ≤ i ∧ i < 2 ^ 62 ∧ -(2 ^ 62) ≤ j ∧ j < 2 ^ 62 then .ok (rngL i (j - i).toNat) ρ1 else .bad
  | _ => .bad
theorem itr_d (G : Hp) (lo : Int) (n : Nat) : ItD C G (rngL lo n) (Itr lo n) := by
  have hl : (rngL lo n).length = n := by unfold rngL; simp
  refine ⟨fun i H s hi => by rw [hl] at hi; exact hi, fun i x H H' s hi hy => ?_, fun i H s hi => by rw [hl] at hi; exact hi⟩
  obtain ⟨rfl, rfl⟩ := hy
  rw [hl] at hi
  exact ⟨.int (lo + (i : Nat)), by unfold rngL; rw [List.getElem?_map, List.getElem?_range hi]; rfl, fun Y' σ' ρ' G3 s3 E3 => ⟨G3, Sub.rfl, E3, by unfold den; rfl⟩⟩
theorem di_range {fs : List (M Opd)} (hg : Gl X "range") (hm : X.mg "range" = none) (ha : PA X [e] (tA C W (eA fs))) (hs : starEach [e] X.env = [(false, eval e X.env)] := by rfl) : PI X tg (.Call (.Name "range" p) [e] [] pos) (tI C W (iRng fs)) :=
  PI.st (pi_range1 hg hm ha hs) fun σ H S h => by
    obtain ⟨Y, G, ρ, E, q⟩ := h
    refine seqAp (C := C) PostI.lk E q fun G1 H1 ρ1 os vs s1 pl E1 ods p1 => ?_
    cases l : looks os ρ1 with
    | none => rw [l] at p1; exact p1.elim
    | some ds =>
      have pd := looks_ok E1 ods l
      rw [l] at p1
      split at p1
      · rename_i j hj
        cases hj
        obtain ⟨v, rfl, h⟩ := pd1 pd
        split at p1
        · rename_i hb
          exact ⟨_, by rw [h.int], hb.1, hb.2, p1 G1 H1 _ Sub.rfl E1 (itr_d G1 0 _)⟩
        · exact p1.elim
      · exact p1.elim
theorem di_range2 {e2 : Expr} {fs : List (M Opd)} (hg : Gl X "range") (hm : X.mg "range" = none) (ha : PA X [e, e2] (tA C W (eA fs))) (hs : starEach [e, e2] X.env = [(false, eval e X.env), (false, eval e2 X.env)] := by rfl) (hs2 : starEach [e2] X.env = [(false, eval e2 X.env)] := by rfl) :
    PI X tg (.Call (.Name "range" p) [e, e2] [] pos) (tI C W (iRng2 fs)) :=
  PI.st (pi_range2 hg hm ha hs hs2) fun σ H S h => by
    obtain ⟨Y, G, ρ, E, q⟩ := h
    refine seqAp (C := C) PostI.lk E q fun G1 H1 ρ1 os vs s1 pl E1 ods p1 => ?_
    cases l : looks os ρ1 with
    | none => rw [l] at p1; exact p1.elim
    | some ds =>
      have pd := looks_ok E1 ods l
      rw [l] at p1
      split at p1
      · rename_i i j hj
        cases hj
        obtain ⟨v, w, rfl, h, h'⟩ := pd2 pd
        split at p1
        · rename_i hb
          exact ⟨_, _, by rw [h.int, h'.int], hb, p1 G1 H1 _ Sub.rfl E1 (itr_d G1 _ _)⟩
        · exact p1.elim
      · exact p1.elim
/-- for i, x in enumerate(list) -/
def enumD (lo : Int) (ds : List D) : List D := ds.zipIdx.map fun z => .tup [.int (lo + (z.2 : Nat)), z.1]
def iEn (f : M Opd) : M (List D) := fun ρ => (eA [f] ρ).bind fun os ρ1 => match takeAll os ρ1 with
  | some ([d], ρ2) => match lstK d with
    | some ds => .ok (enumD 0 ds) ρ2
    | none => .bad
  | _ => .bad
theorem di_enum {elts : List Expr} {kk : Nat} {tpos : Pos} (hK : C.b.K = X.K) (hg : Gl X "enumerate") (hm : X.mg "enumerate" = none) (ha : PA X [e] (tA C W (eA [f]))) (hs : starEach [e] X.env = [(false, eval e X.env)] := by rfl) :
    PI X (.Tuple elts kk tpos) (.Call (.Name "enumerate" p) [e] [] pos) (tI C W (iEn f)) :=
  PI.st (pi_enum hg hm ha hs) fun σ H S h => by
    obtain ⟨Y, G, ρ, E, q⟩ := h
    refine seqAp (C := C) PostI.lk E q fun G1 H1 ρ1 os vs s1 pl E1 ods p1 => ?_
    cases t : takeAll os ρ1 with
    | none => rw [t] at p1; exact p1.elim
    | some z =>
      obtain ⟨ds, ρ2⟩ := z
      rw [t] at p1
      obtain ⟨G2, s2, E2, d2⟩ := takeAll_ok E1 pl ods t
      cases ds with
      | nil => exact p1.elim
      | cons d0 ds =>
        cases ds with
        | cons _ _ => exact p1.elim
        | nil =>
          unfold denL at d2
          obtain ⟨v, r, rfl, d3, d4⟩ := d2
          unfold denL at d4
          subst d4
          dsimp only at p1
          cases hk : lstK d0 with
          | none => rw [hk] at p1; exact p1.elim
          | some ds =>
            rw [hk] at p1
            obtain ⟨a, vs, rfl, sq, pd⟩ := lst_key hK hk d3
            have hl := pd.length
            have hle : (enumD 0 ds).length = ds.length := by unfold enumD; simp
            refine ⟨a, vs, rfl, sq _ E2.sub, p1 G2 H1 (Ite X.K a) s2 E2 ⟨fun i H s hi => ?_, fun i x H H' s hi hy => ?_, fun i H s hi => ?_⟩⟩
            · obtain ⟨x, hx⟩ : ∃ x, vs[i]? = some x := ⟨vs[i], List.getElem?_eq_getElem (by omega)⟩
              exact ⟨vs, x, sq _ s, hx⟩
            · obtain ⟨T, x, rfl, hT, rfl, hx⟩ := hy
              have hx := hx vs (sq _ s)
              obtain ⟨d', h1, h2⟩ := pd_getR pd hx
              refine ⟨.tup [.int (0 + (i : Nat)), d'], ?_, fun Y' σ' ρ' G3 s3 E3 => ?_⟩
              · unfold enumD
                rw [List.getElem?_map, List.getElem?_zipIdx, h1]
                simp
              · have sg : Sub G3 (upd G3 T (.tup [.int (i : Nat), x])) := Sub.new (E3.gn hT)
                refine ⟨_, sg, E3.froze hT, ?_⟩
                unfold den
                refine ⟨T, _, rfl, SqT.of upd_same, ?_⟩
                unfold denL denL denL
                exact ⟨_, _, rfl, by unfold den; simp, _, _, rfl, den.mono (s3.trans sg) _ _ h2, rfl⟩
            · exact ⟨vs, sq _ s, by omega⟩
end

/-! ### for -/
def loopF (t : Tg) (body : M Fl) : List D → M Fl
  | [], ρ => .ok .nx ρ
  | d :: ds, ρ => match t d ρ with
    | some ρ1 => (body ρ1).bind fun f ρ2 => match f with
      | .nx => loopF t body ds ρ2
      | .ct => loopF t body ds ρ2
      | .bk => .ok .nx ρ2
      | .rt o => .ok (.rt o) ρ2
    | none => .bad
def sFor (it : M (List D)) (t : Tg) (body : M Fl) : M Fl := fun ρ => (it ρ).bind fun ds ρ1 => loopF t body ds ρ1
theorem seqI {C : Cn} {W : WX} {β : Type} {Y : Gr} {G : Hp} {σ : St} {H : Hp} {ρ : DEnv} {P : Hp → R β → Prop} (L : Lk C W Y σ P) {it : M (List D)} {k : List D → DEnv → R β} (E : ED C Y G σ H ρ) (p : P G ((it ρ).bind k)) {S : It → Hp → Prop}
    (h : ∀ G' H1 ρ1 ds J, Sub G G' → ED C Y G' σ H1 ρ1 → ItD C G' ds J → P G' (k ds ρ1) → S J H1) : tI C W it σ H S := by
  refine ⟨Y, G, ρ, E, ?_⟩
  cases hf : it ρ with
  | bad => rw [hf] at p; exact (L.bad p).elim
  | exc c d ρ1 => rw [hf] at p; exact L.exc p
  | ok o ρ1 =>
    rw [hf] at p
    intro G' H' J s E' it
    exact h G' H' ρ1 o J s E' it (L.mono s p)
theorem ds_for {X : Cx} {C : Cn} {W : WX} {tg it : Expr} {body : List Stmt} {f : M (List D)} {t : Tg} {is : List Nat} {b : M Fl} {pos : Pos} (hp : PassesOwn (model X.prog X.w) X.A X.env X.xe) (hc : X.calm = true) (hi : PI X tg it (tI C W f)) (hg : PG X tg (tG C is t)) (hb : PSs X body (tS C W b))
    (hfs : ∀ x, foldedSetIterable it X.env x = pure x := by intro _; rfl) : PS X (.For tg it body [] pos) (tS C W (sFor f t b)) := PS.st (ps_for hp hc hi hg hb hfs) fun N σ H h => by
  obtain ⟨Y, G, ρ, E, p⟩ := h
  refine seqI (C := C) (PostS.lk (σ := σ)) E p fun G1 H1 ρ1 ds J s1 E1 I1 p1 => ?_
  refine ⟨fun i m σ H => m + i = ds.length ∧ ∃ G2 ρ2, Sub G1 G2 ∧ ED C Y G2 σ H ρ2 ∧ PostS C W N Y G2 (loopF t b (ds.drop i) ρ2), ⟨ds.length, by omega, G1, ρ1, Sub.rfl, E1, p1⟩, ?_⟩
  rintro i m σ2 H2 ⟨hm, G2, ρ2, s2, E2, p2⟩
  by_cases hlt : i < ds.length
  · refine .inr ⟨I1.go i H2 (s2.trans E2.sub) hlt, fun σ' H' => ∃ G3 ρ3, Sub G1 G3 ∧ ED C Y G3 σ' H' ρ3 ∧ PostS C W N Y G3 (loopF t b (ds.drop (i + 1)) ρ3), fun σ' H' q => ⟨m - 1, by omega, by omega, q⟩, fun x H' hy => ?_⟩
    obtain ⟨d, hd, step⟩ := I1.yld i x H2 H' (s2.trans E2.sub) hlt hy
    obtain ⟨G3, s3, E3, dn⟩ := step Y σ2 ρ2 G2 s2 E2
    have hdr : ds.drop i = d :: ds.drop (i + 1) := by
      rw [List.getElem?_eq_getElem hlt] at hd
      cases hd
      exact List.drop_eq_getElem_cons hlt
    rw [hdr] at p2
    unfold loopF at p2
    cases ht : t d ρ2 with
    | none => rw [ht] at p2; exact p2.elim
    | some ρ3 =>
      rw [ht] at p2
      dsimp only at p2
      refine ⟨Y, G3, ρ2, d, ρ3, E3, dn, ht, fun σ3 _ E4 => ⟨Y, G3, ρ3, E4, ?_⟩⟩
      have p3 := p2.mono s3
      cases hb2 : b ρ3 with
      | bad => rw [hb2] at p3; exact p3.elim
      | exc c d ρ1 => rw [hb2] at p3; exact p3
      | ok fl ρ4 =>
        rw [hb2] at p3
        cases fl with
        | nx => exact fun G5 σ5 H5 s5 E5 => ⟨G5, ρ4, (s2.trans s3).trans s5, E5, p3.mono s5⟩
        | ct => exact fun G5 σ5 H5 s5 E5 => ⟨G5, ρ4, (s2.trans s3).trans s5, E5, p3.mono s5⟩
        | bk => exact fun G5 σ5 H5 s5 E5 => p3 G5 σ5 H5 s5 E5
        | rt o => exact fun G5 σ5 H5 v s5 E5 od => p3 G5 σ5 H5 v s5 E5 od
  · refine .inl ⟨I1.stop i H2 (s2.trans E2.sub) (by omega), ?_⟩
    rw [List.drop_eq_nil_of_le (by omega)] at p2
    exact p2 G2 σ2 H2 Sub.rfl E2

/-! ### while -/
def loopW (t : M Bool) (body : M Fl) : Nat → M Fl
  | 0, _ => .bad
  | n + 1, ρ => (t ρ).bind fun c ρ1 => if c then (body ρ1).bind fun f ρ2 => match f with
      | .nx => loopW t body n ρ2
      | .ct => loopW t body n ρ2
      | .bk => .ok .nx ρ2
      | .rt o => .ok (.rt o) ρ2
    else .ok .nx ρ1
def sWhile (n : Nat) (t : M Bool) (body : M Fl) : M Fl := loopW t body n
theorem ds_while {X : Cx} {C : Cn} {W : WX} {c : Expr} {body : List Stmt} {t : M Bool} {b : M Fl} {pos : Pos} (n : Nat) (hp : PassesOwn (model X.prog X.w) X.A X.env X.xe) (hc : PT X c (tT C W t)) (hb : PSs X body (tS C W b)) : PS X (.While c body [] pos) (tS C W (sWhile n t b)) :=
  PS.st (ps_while hp hc hb) fun N σ H h => by
    obtain ⟨Y, G, ρ, E, p⟩ := h
    refine ⟨fun m σ H => ∃ G2 ρ2, Sub G G2 ∧ ED C Y G2 σ H ρ2 ∧ PostS C W N Y G2 (loopW t b m ρ2), ⟨n, G, ρ, Sub.rfl, E, p⟩, ?_⟩
    rintro m σ2 H2 ⟨G2, ρ2, s2, E2, p2⟩
    cases m with
    | zero => exact p2.elim
    | succ m =>
      unfold loopW at p2
      refine seqT (C := C) (PostS.lk (σ := σ2)) E2 p2 fun G3 H3 ρ3 c s3 E3 p3 => ?_
      cases c with
      | false => exact p3 G3 σ2 H3 Sub.rfl E3
      | true =>
        refine ⟨fun σ' H' => ∃ G4 ρ4, Sub G G4 ∧ ED C Y G4 σ' H' ρ4 ∧ PostS C W N Y G4 (loopW t b m ρ4), fun σ' H' q => ⟨m, Nat.lt_succ_self _, q⟩, Y, G3, ρ3, E3, ?_⟩
        have p3 : PostS C W N Y G3 ((b ρ3).bind fun f ρ2 => match f with
          | .nx => loopW t b m ρ2
          | .ct => loopW t b m ρ2
          | .bk => .ok .nx ρ2
          | .rt o => .ok (.rt o) ρ2) := p3
        cases hb2 : b ρ3 with
        | bad => rw [hb2] at p3; exact p3.elim
        | exc c d ρ1 => rw [hb2] at p3; exact p3
        | ok fl ρ4 =>
          rw [hb2] at p3
          cases fl with
          | nx => exact fun G5 σ5 H5 s5 E5 => ⟨G5, ρ4, (s2.trans s3).trans s5, E5, p3.mono s5⟩
          | ct => exact fun G5 σ5 H5 s5 E5 => ⟨G5, ρ4, (s2.trans s3).trans s5, E5, p3.mono s5⟩
          | bk => exact fun G5 σ5 H5 s5 E5 => p3 G5 σ5 H5 s5 E5
          | rt o => exact fun G5 σ5 H5 v s5 E5 od => p3 G5 σ5 H5 v s5 E5 od
end DL

set_option Elab.async false
set_option linter.all false
set_option maxRecDepth 100000
set_option maxHeartbeats 1000000
/-! The data layer: list comprehensions. -/
namespace DL
open PySem PySem.Spec L2
open PyProof.Rows hiding St

/-- no exception is wished for (a comprehension's block) -/
abbrev WF : WX := fun _ _ _ _ => False
def wipeD (ρ : DEnv) : List Nat → DEnv
  | [] => ρ
  | v :: vs => (wipeD ρ vs).set v none
theorem wipeD_none {ρ : DEnv} {i : Nat} {y : Bool × D} : ∀ {vs : List Nat}, (wipeD ρ vs)[i]? = some (some y) → ρ[i]? = some (some y) ∧ i ∉ vs
  | [], h => ⟨h, by simp⟩
  | v :: vs, h => by
    unfold wipeD at h
    rcases set_get h with ⟨_, q⟩ | ⟨hj, q⟩
    · cases q
    · obtain ⟨h1, h2⟩ := wipeD_none q
      exact ⟨h1, by simp [hj, h2]⟩
section
variable {C : Cn} {Y : Gr} {G : Hp} {σ σ' : St} {H : Hp} {ρ : DEnv}
theorem ED.agree (E : ED C Y G σ H ρ) (hl : σ'.length = σ.length) (h : ∀ (i : Nat) (y : Bool × D), ρ[i]? = some (some y) → σ'[i]? = σ[i]?) : ED C Y G σ' H ρ := by
  refine ⟨E.sub, fun i d e => ?_, fun i d e => ?_, fun i j d e p hij h1 h2 h3 h4 => ?_, E.len.trans hl.symm, fun i p hb => ?_, E.old, E.fz, E.g0, E.tb, E.gt⟩
  · rw [h i _ e]; exact E.frz i d e
  · rw [h i _ e]; exact E.own i d e
  · rw [h i _ h1] at h3
    rw [h j _ h2] at h4
    exact E.ap i j d e p hij h1 h2 h3 h4
  · obtain ⟨h1, hn, b, d, h2, hc, h3⟩ := E.bor i p hb
    exact ⟨by rw [h i _ h2]; exact h1, hn, b, d, h2, hc, h3⟩
theorem ED.wipe (E : ED C Y G σ H ρ) : ∀ {vs : List Nat}, (∀ i ∈ vs, C.np ≤ i) → ED C Y G σ H (wipeD ρ vs)
  | [], _ => E
  | v :: vs, h => by
    unfold wipeD
    refine (E.wipe fun i hi => h i (List.mem_cons_of_mem _ hi)).drop' ?_
    unfold okSet
    rw [decide_eq_true (h v List.mem_cons_self)]; rfl
end
theorem wipe_get {σ : St} {i : Nat} : ∀ {vs : List Nat}, i ∉ vs → (L2.wipe σ vs)[i]? = σ[i]?
  | [], _ => rfl
  | v :: vs, h => by
    have h1 : v ≠ i := fun e => h (by simp [e])
    unfold L2.wipe
    rw [List.getElem?_set_ne h1]
    exact wipe_get fun q => h (List.mem_cons_of_mem _ q)
theorem wipe_in {σ : St} {i : Nat} : ∀ {vs : List Nat}, i ∈ vs → i < σ.length → (L2.wipe σ vs)[i]? = some none
  | v :: vs, h, hl => by
    unfold L2.wipe
    by_cases hv : v = i
    · subst hv
      rw [List.getElem?_set_self (by rw [wipe_length]; exact hl)]
    · rw [List.getElem?_set_ne hv]
      exact wipe_in (by rcases List.mem_cons.mp h with e | h; exact absurd e.symm hv; exact h) hl
/-- stores to the block's own names are wiped away -/
theorem wipe_keep {σ σ2 : St} {is vs : List Nat} (k : Keep is (L2.wipe σ vs) σ2) (h : ∀ i ∈ is, i ∈ vs) : L2.wipe σ2 vs = L2.wipe σ vs := by
  have hl : σ2.length = σ.length := by rw [k.1, wipe_length]
  apply List.ext_getElem?
  intro i
  by_cases hi : i ∈ vs
  · by_cases hlt : i < σ.length
    · rw [wipe_in hi hlt, wipe_in hi (by rw [hl]; exact hlt)]
    · rw [List.getElem?_eq_none (by rw [wipe_length, hl]; omega), List.getElem?_eq_none (by rw [wipe_length]; omega)]
  · rw [wipe_get hi, wipe_get hi, k.2 i (fun z => hi (h i z)), wipe_get hi]

def tYes' : M Bool := fun ρ => .ok true ρ
def lcGo (vs : List Nat) (t : Tg) (c : M Bool) (f : M Opd) : List D → List D → DEnv → R (List D)
  | [], acc, ρ => .ok acc ρ
  | d :: ds, acc, ρ => match t d ρ with
    | some ρ1 => match c ρ1 with
      | .ok true ρ2 => match f ρ2 with
        | .ok o ρ3 => match takeO o ρ3 with
          | some (y, ρ4) => if acc.length < 16777216 then lcGo vs t c f ds (acc ++ [y]) (wipeD ρ4 vs) else .bad
          | none => .bad
        | _ => .bad
      | .ok false ρ2 => lcGo vs t c f ds acc (wipeD ρ2 vs)
      | _ => .bad
    | none => .bad
def finLc (r : R (List D)) : R Opd := match r with
  | .ok acc ρ => .ok (.own (.lst acc)) ρ
  | _ => .bad
def eLc (it : M (List D)) (vs : List Nat) (t : Tg) (c : M Bool) (f : M Opd) : M Opd := fun ρ => (it ρ).bind fun ds ρ1 => finLc (lcGo vs t c f ds [] (wipeD ρ1 vs))
section
variable {X : Cx} {C : Cn} {W : WX}
theorem tLc_of {it : M (List D)} {vs is : List Nat} {t : Tg} {c : M Bool} {f : M Opd} (hv : ∀ i ∈ vs, C.np ≤ i) (his : ∀ i ∈ is, i ∈ vs) {σ : St} {H : Hp} {Q : VK} (h : tE C W (eLc it vs t c f) σ H Q) :
    tLc (tI C W it) (tG C is t) (tT C WF c) (tE C WF f) vs σ H Q := by
  obtain ⟨Y, G, ρ, E, p⟩ := h
  refine seqI (C := C) Post.lk E p fun G1 H1 ρ1 ds J s1 E1 I1 p1 => ?_
  intro Dd hD
  have off := E1.off hD
  refine ⟨fun i m H => m + i = ds.length ∧ ∃ G2 ρ2 acc av, Sub G1 G2 ∧ ED C (Y.prot Dd (.lst av)) G2 σ H (wipeD ρ2 vs) ∧ denL C.b G2 acc av ∧ Post C W Q Y G2 σ (finLc (lcGo vs t c f (ds.drop i) acc (wipeD ρ2 vs))),
    ⟨ds.length, by omega, G1, ρ1, [], [], Sub.rfl, (E1.wipe hv).prot hD, by unfold denL; rfl, p1⟩, ?_⟩
  rintro i m H2 ⟨hm, G2, ρ2, acc, av, s2, E2, dacc, p2⟩
  by_cases hlt : i < ds.length
  · refine .inr ⟨I1.go i H2 (s2.trans E2.sub) hlt, fun H' => ∃ G3 ρ3 acc av, Sub G1 G3 ∧ ED C (Y.prot Dd (.lst av)) G3 σ H' (wipeD ρ3 vs) ∧ denL C.b G3 acc av ∧ Post C W Q Y G3 σ (finLc (lcGo vs t c f (ds.drop (i + 1)) acc (wipeD ρ3 vs))),
      fun H' q => ⟨m - 1, by omega, by omega, q⟩, fun x H' hy => ?_⟩
    obtain ⟨d, hd, step⟩ := I1.yld i x H2 H' (s2.trans E2.sub) hlt hy
    obtain ⟨G3, s3, E3, dn⟩ := step _ σ _ G2 s2 E2
    have hdr : ds.drop i = d :: ds.drop (i + 1) := by
      rw [List.getElem?_eq_getElem hlt] at hd
      cases hd
      exact List.drop_eq_getElem_cons hlt
    rw [hdr] at p2
    unfold lcGo at p2
    cases ht : t d (wipeD ρ2 vs) with
    | none => rw [ht] at p2; exact p2.elim
    | some ρ3 =>
      rw [ht] at p2
      dsimp only at p2
      have E3' : ED C (Y.prot Dd (.lst av)) G3 (L2.wipe σ vs) H' (wipeD ρ2 vs) := E3.agree (wipe_length σ vs) fun j y hj => wipe_get (wipeD_none hj).2
      refine ⟨_, G3, _, d, ρ3, E3', dn, ht, fun σ3 k3 E4 => ⟨wipe_keep k3 his, ?_⟩⟩
      -- back to the names as they were
      have back : ∀ {Y' : Gr} {G' H' : Hp} {ρ' : DEnv}, ED C Y' G' σ3 H' ρ' → ED C Y' G' σ H' (wipeD ρ' vs) := fun {Y' G' H' ρ'} E' =>
        (E'.wipe hv).agree (by rw [k3.1, wipe_length]) fun j y hj => by
          have hn := (wipeD_none hj).2
          rw [k3.2 j (fun z => hn (his j z)), wipe_get hn]
      refine ⟨_, G3, ρ3, E4, ?_⟩
      cases hc : c ρ3 with
      | bad => rw [hc] at p2; exact p2.elim
      | exc _ _ _ => rw [hc] at p2; exact p2.elim
      | ok b ρ4 =>
        rw [hc] at p2
        intro G5 H5 s5 E5
        cases b with
        | false =>
          rw [if_neg Bool.false_ne_true]
          exact ⟨G5, ρ4, acc, av, (s2.trans s3).trans s5, back E5, denL.mono (s3.trans s5) _ _ dacc, (p2.mono (s3.trans s5))⟩
        | true =>
          rw [if_pos rfl]
          dsimp only at p2
          refine ⟨_, G5, ρ4, E5, ?_⟩
          cases hf : f ρ4 with
          | bad => rw [hf] at p2; exact p2.elim
          | exc _ _ _ => rw [hf] at p2; exact p2.elim
          | ok o ρ5 =>
            rw [hf] at p2
            intro G6 H6 v s6 E6 od
            dsimp only at p2
            cases htk : takeO o ρ5 with
            | none => rw [htk] at p2; exact p2.elim
            | some z =>
              obtain ⟨y, ρ6⟩ := z
              rw [htk] at p2
              dsimp only at p2
              obtain ⟨G7, s7, E7, dy⟩ := takeO_ok E6 od htk
              by_cases hz : acc.length < 16777216
              · rw [if_pos hz] at p2
                have off7 : Off Y Dd := off
                obtain ⟨c1, _, _⟩ := E7.cell off7
                have s37 := ((s3.trans s5).trans s6).trans s7
                have hl := dacc.len
                refine ⟨av, c1, by rw [sz_eq]; omega, G7, ρ6, acc ++ [y], av ++ [v], s2.trans s37, back (E7.setC off7 quiet_lst), ?_, p2.mono s37⟩
                exact denL_iff.mpr (pd_app (denL_iff.mp (denL.mono s37 _ _ dacc)) (.cons dy .nil))
              · rw [if_neg hz] at p2; exact p2.elim
  · refine .inl ⟨I1.stop i H2 (s2.trans E2.sub) (by omega), ?_⟩
    rw [List.drop_eq_nil_of_le (by omega)] at p2
    obtain ⟨c1, _, _⟩ := E2.cell off
    obtain ⟨E3, od⟩ := E2.cellO off (d := .lst acc) ⟨av, c1, dacc⟩
    exact p2 G2 H2 _ Sub.rfl E3 od
variable {elt tg iter : Expr} {ifs : List Expr} {scope : Scope} {own : List (Str × Nat)} {pos spos py : Pos} {it : M (List D)} {is : List Nat} {t : Tg} {c : M Bool} {f : M Opd}
theorem de_lc (hc : X.calm = true) (hN : X.N.Nodup) (hv : ∀ i ∈ own.map (·.2), C.np ≤ i) (his : ∀ i ∈ is, i ∈ own.map (·.2)) (hi : PI X tg iter (tI C W it)) (ok : BlkOk X.N X.env.scope scope own)
    (hg : ∀ (s : Shared) (H : Hp) (Ca : Addr) (cl : List (Str × Addr)) (fp : List Addr), PG (X.blk s H scope (compEnvC scope cl Ca X.env) fp) tg (tG C is t)) (ht : ∀ (s : Shared) (H : Hp) (Ca : Addr) (cl : List (Str × Addr)) (fp : List Addr), PTs (X.blk s H scope (compEnvC scope cl Ca X.env) fp) ifs (tT C WF c))
    (he : ∀ (s : Shared) (H : Hp) (Ca : Addr) (cl : List (Str × Addr)) (fp : List Addr), PE (X.blk s H scope (compEnvC scope cl Ca X.env) fp) elt (tE C WF f)) (hs : ∀ x, foldedSetIterable iter X.env x = pure x := by intro _; rfl) :
    PE X (.ListComp elt [⟨tg, iter, ifs, 0⟩] scope pos) (tE C W (eLc it (own.map (·.2)) t c f)) :=
  PE.st (pe_lc hc hN hi ok hg ht he hs) fun _ _ _ h => tLc_of hv his h
theorem tE_asg {i : Nat} {f : M Opd} {N : Ends} {σ : St} {H : Hp} (h : tS C W (sAsg C.np i f) N σ H) : tE C W f σ H fun x H1 => N.nx (σ.set i (some x)) H1 := by
  obtain ⟨Y, G, ρ, E, p⟩ := h
  refine seq0 (C := C) (PostS.lk (σ := σ)) E p fun G1 H1 ρ1 o v s1 E1 od p1 => ?_
  cases e1 : rsv o ρ1 with
  | none => rw [e1] at p1; exact p1.elim
  | some z =>
    obtain ⟨o', ρ2⟩ := z
    rw [e1] at p1
    obtain ⟨G2, s2, E2, od2⟩ := rsv_ok E1 od e1
    dsimp only at p1
    cases e2 : asg C.np i o' ρ2 with
    | none => rw [e2] at p1; exact p1.elim
    | some ρ3 =>
      rw [e2] at p1
      exact p1 G2 _ H1 s2 (asg_ok E2 od2 e2)
theorem ds_setLc {i : Nat} {y : Str} (hc : X.calm = true) (hN : X.N.Nodup) (hy : X.N[i]? = some y) (hyl : X.env.scope.names.lookup y = some .local)
    (hsw : swapsWith (.ListComp elt [⟨tg, iter, ifs, 0⟩] scope pos) (some (.Name y py)) spos.line X.env = pure true) (hv : ∀ i ∈ own.map (·.2), C.np ≤ i) (his : ∀ i ∈ is, i ∈ own.map (·.2)) (hi : PI X tg iter (tI C W it)) (ok : BlkOk X.N X.env.scope scope own)
    (hg : ∀ (s : Shared) (H : Hp) (Ca : Addr) (cl : List (Str × Addr)) (fp : List Addr), PG (X.blk s H scope (compEnvC scope cl Ca X.env) fp) tg (tG C is t)) (ht : ∀ (s : Shared) (H : Hp) (Ca : Addr) (cl : List (Str × Addr)) (fp : List Addr), PTs (X.blk s H scope (compEnvC scope cl Ca X.env) fp) ifs (tT C WF c))
    (he : ∀ (s : Shared) (H : Hp) (Ca : Addr) (cl : List (Str × Addr)) (fp : List Addr), PE (X.blk s H scope (compEnvC scope cl Ca X.env) fp) elt (tE C WF f)) (hs : ∀ x, foldedSetIterable iter X.env x = pure x := by intro _; rfl) :
    PS X (.Assign [.Name y py] (.ListComp elt [⟨tg, iter, ifs, 0⟩] scope pos) spos) (tS C W (sAsg C.np i (eLc it (own.map (·.2)) t c f))) :=
  PS.st (ps_setLc hc hN hy hyl hsw hi ok hg ht he hs) fun _ _ _ h => tLc_of hv his (tE_asg h)
theorem PTs.st {X : Cx} {e : List Expr} {t t' : TT} (h : PTs X e t) (i : ∀ σ H Q, t' σ H Q → t σ H Q) : PTs X e t' := ⟨fun pins s σ H Q I q => h.run pins s σ H Q I (i σ H Q q)⟩
theorem dts_nil : PTs X [] (tT C W tYes') := PTs.st pts_nil fun σ H Q h => by
  obtain ⟨Y, G, ρ, E, p⟩ := h
  exact p G H Sub.rfl E
theorem dts_one {cnd : Expr} (h : PT X cnd (tT C W c)) : PTs X [cnd] (tT C W c) := pts_one h
end
end DL

set_option Elab.async false
set_option linter.all false
set_option maxRecDepth 100000
set_option maxHeartbeats 1000000
/-! The data layer: what writes at an owned list; dict displays; list(range). -/
namespace DL
open PySem PySem.Spec L2
open PyProof.Rows hiding St

section
variable {C : Cn} {Y : Gr} {G : Hp} {σ : St} {H : Hp} {ρ : DEnv} {p : Addr} {o' : HO} {d d' : D} {i : Nat}
/-- the thing in an owned slot is written -/
theorem ED.mut (E : ED C Y G σ H ρ) (hr : ρ[i]? = some (some (true, d))) (hσ : σ[i]? = some (some (.ref p))) (ho : ownAt C.b G (upd H p o') p d') : ED C Y G σ (upd H p o') (ρ.set i (some (true, d'))) := by
  obtain ⟨p', h1, gn, oa, hB⟩ := E.own i d hr
  rw [hσ] at h1; cases h1
  have hlt := (List.getElem?_eq_some_iff.mp hr).1
  refine ⟨fun a u e => ?_, fun j e h => ?_, fun j e h => ?_, fun j k e e' q hjk h1 h2 h3 h4 => ?_, by rw [List.length_set]; exact E.len, fun j q hq => ?_, fun a u e hb ht => ?_, E.fz, E.g0, ⟨E.tb.1, (let ⟨_, hu, hq⟩ := oa.quiet; tabs_upd E.tb.2 hu hq)⟩, E.gt⟩
  · have : a ≠ p := fun z => by rw [z, gn] at e; cases e
    rw [upd_ne this]; exact E.sub a u e
  · rcases set_get h with ⟨rfl, q⟩ | ⟨hj, q⟩
    · cases q
    · exact E.frz j e q
  · rcases set_get h with ⟨rfl, q⟩ | ⟨hj, q⟩
    · cases q
      exact ⟨p, hσ, gn, ho, hB⟩
    · obtain ⟨r, r1, r2, r3, r4⟩ := E.own j e q
      have hne : r ≠ p := fun z => E.ap j i e d p hj q hr (z ▸ r1) hσ
      exact ⟨r, r1, r2, r3.mono Sub.rfl (upd_ne hne), r4⟩
  · have pull : ∀ {m : Nat} {x : D}, (ρ.set i (some (true, d')))[m]? = some (some (true, x)) → ∃ y, ρ[m]? = some (some (true, y)) := fun {m x} h => by
      rcases set_get h with ⟨rfl, q⟩ | ⟨_, q⟩
      · exact ⟨d, hr⟩
      · exact ⟨x, q⟩
    obtain ⟨y1, q1⟩ := pull h1
    obtain ⟨y2, q2⟩ := pull h2
    exact E.ap j k y1 y2 q hjk q1 q2 h3 h4
  · obtain ⟨h1, hn, b', e', h2, hc, h3⟩ := E.bor j q hq
    by_cases hj : j = i
    · subst hj
      exact ⟨h1, hn, true, d', List.getElem?_set_self hlt, ho.cont, .inl rfl⟩
    · exact ⟨h1, hn, b', e', by rw [List.getElem?_set_ne (Ne.symm hj)]; exact h2, hc, h3⟩
  · have : a ≠ p := fun z => by
      subst z
      rcases hB with hB | hB
      · rw [hB] at e; cases e
      · exact hb i hB
    rw [upd_ne this]; exact E.old a u e hb ht
end
def tyO : D → String
  | .lst _ => "list"
  | .dK _ => "dict"
  | _ => ""
theorem ownAt.ty {C : Cb} {K : PySem.W.Frag} {G H : Hp} {p : Addr} : ∀ {d : D}, ownAt C G H p d → tyV K (tyO d) (.ref p) H
  | .lst xs, ⟨vs, a, b⟩ => .inl ⟨rfl, vs, SqL.of a⟩
  | .dK xs, ⟨vs, a, b⟩ => .inr (.inr (.inl ⟨rfl, .inl ⟨vs, a⟩⟩))
/-- a method that writes at its owned receiver: what it leaves, what it gives -/
def MutD (C : Cn) (F : D → List D → Option (D × D)) (r : V → List V → Hp → VK → Prop) : Prop := ∀ {G H : Hp} {p : Addr} {d d' res : D} {ds : List D} {xs : List V} {Q : VK}, Sub G H → ownAt C.b G H p d → denL C.b G ds xs → F d ds = some (d', res) →
  (∀ v o, ownAt C.b G (upd H p o) p d' → den C.b G res v → Q v (upd H p o)) → r (.ref p) xs H Q
def finM (i : Nat) (F : D → List D → Option (D × D)) (ds : List D) (ρ : DEnv) : R Opd := match ρ[i]? with
  | some (some (true, d)) => match F d ds with
    | some (d', res) => .ok (.val res) (ρ.set i (some (true, d')))
    | none => .bad
  | _ => .bad
def eMut (T : String) (i : Nat) (fs : List (M Opd)) (F : D → List D → Option (D × D)) : M Opd := fun ρ => match ρ[i]? with
  | some (some (true, d)) => if tyO d = T then (eA fs ρ).bind fun os ρ1 => match takeAll os ρ1 with
      | some (ds, ρ2) => finM i F ds ρ2
      | none => .bad
    else .bad
  | _ => .bad
section
variable {X : Cx} {C : Cn} {W : WX} {o e : Expr} {es : List Expr} {f g : M Opd} {fs : List (M Opd)} {F : D → List D → Option (D × D)} {r : V → List V → Hp → VK → Prop} {name : Str} {apos cpos pos : Pos} {T id : String} {i : Nat}
theorem tE_var {Y : Gr} {G : Hp} {σ : St} {H : Hp} {ρ : DEnv} {b : Bool} {d : D} {Q : VK} (E : ED C Y G σ H ρ) (hr : ρ[i]? = some (some (b, d))) (h : ∀ v, σ[i]? = some (some v) → ∀ G' H', Sub G G' → ED C Y G' σ H' ρ → Q v H') : tE C W (eV i) σ H Q := by
  refine ⟨Y, G, ρ, E, ?_⟩
  have : eV i ρ = .ok (.slot i) ρ := by unfold eV; rw [hr]
  rw [this]
  exact fun G' H' v s E' od => h v od G' H' s E'
theorem finM_ok (hF : MutD C F r) {Y : Gr} {G : Hp} {σ : St} {H : Hp} {ρ : DEnv} {Q : VK} {v : V} {ds : List D} {xs : List V} (E : ED C Y G σ H ρ) (hv : σ[i]? = some (some v)) (dn : denL C.b G ds xs) (p : Post C W Q Y G σ (finM i F ds ρ)) : r v xs H Q := by
  unfold finM at p
  split at p
  · rename_i d hr
    obtain ⟨a, h1, gn, oa, hB⟩ := E.own i d hr
    rw [hv] at h1; cases h1
    cases hf : F d ds with
    | none => rw [hf] at p; exact p.elim
    | some z =>
      obtain ⟨d', res⟩ := z
      rw [hf] at p
      exact hF E.sub oa dn hf fun u o oa' dr => p G _ u Sub.rfl (E.mut hr hv oa') dr
  · exact p.elim
theorem de_mut (pa : PlainAttrs T) (slot : PySem.Slot T name id) (hty : typeOf (.builtin id) = pure (.type "method_descriptor")) (hm : MtR X id r) (hF : MutD C F r) (ho : PE X o (tE C W (eV i))) (ha : PA X (e :: es) (tA C W (eA fs)))
    (hbase : attributeBase o name X.env (eval o X.env) = eval o X.env := by rfl)
    (hfew : ((backTo cpos (starEach (e :: es) X.env)).all (fun x => !x.1) && (backToKw cpos (keywordEach [] X.env)).all (fun x => x.1.isSome)
      && decide ((e :: es).length + ([] : List Keyword).length + (if ([] : List Keyword).isEmpty then 0 else 1) < 30)) = true := by rfl)
    (hline : (apos.endLine == cpos.line) = true := by rfl) (hs : starEach (e :: es) X.env = (false, eval e X.env) :: starEach es X.env := by rfl) (hplain : (backTo cpos (starEach es X.env)).any (·.1) = false := by rfl) :
    PE X (.Call (.Attribute o name apos) (e :: es) [] cpos) (tE C W (eMut T i fs F)) :=
  PE.st (pe_bm pa slot hty hm ho ha hbase hfew hline hs hplain) fun σ H Q q => by
    obtain ⟨Y, G, ρ, E, p⟩ := q
    unfold eMut at p
    split at p
    · rename_i d hr
      split at p
      · rename_i ht
        refine tE_var E hr fun v hv G1 H1 s1 E1 => ?_
        obtain ⟨a, h1, gn, oa, hB⟩ := E1.own i d hr
        rw [hv] at h1; cases h1
        refine ⟨ht ▸ oa.ty, ?_⟩
        refine seqAp (C := C) Post.lk E1 (p.mono s1) fun G2 H2 ρ2 os vs s2 pl E2 ods p2 => ?_
        cases e1 : takeAll os ρ2 with
        | none => rw [e1] at p2; exact p2.elim
        | some z =>
          obtain ⟨ds, ρ3⟩ := z
          rw [e1] at p2
          obtain ⟨G3, s3, E3, d3⟩ := takeAll_ok E2 pl ods e1
          exact finM_ok hF E3 hv d3 (Post.mono s3 p2)
      · exact p.elim
    · exact p.elim
theorem de_mut0 (pa : PlainAttrs T) (slot : PySem.Slot T name id) (hty : typeOf (.builtin id) = pure (.type "method_descriptor")) (hm : MtR X id r) (hF : MutD C F r) (ho : PE X o (tE C W (eV i)))
    (hbase : attributeBase o name X.env (eval o X.env) = eval o X.env := by rfl)
    (hline : (apos.endLine == cpos.line) = true := by rfl) :
    PE X (.Call (.Attribute o name apos) [] [] cpos) (tE C W (eMut T i [] F)) :=
  PE.st (pe_bm0 pa slot hty hm ho hbase hline) fun σ H Q q => by
    obtain ⟨Y, G, ρ, E, p⟩ := q
    unfold eMut at p
    split at p
    · rename_i d hr
      split at p
      · rename_i ht
        refine tE_var E hr fun v hv G1 H1 s1 E1 => ?_
        obtain ⟨a, h1, gn, oa, hB⟩ := E1.own i d hr
        rw [hv] at h1; cases h1
        refine ⟨ht ▸ oa.ty, ?_⟩
        exact finM_ok (ds := []) hF E1 hv (by unfold denL; rfl) (Post.mono s1 p)
      · exact p.elim
    · exact p.elim
end
def appF : D → List D → Option (D × D)
  | .lst xs, [d] => if xs.length < 16777216 then some (.lst (xs ++ [d]), .non) else none
  | _, _ => none
def extF : D → List D → Option (D × D)
  | .lst xs, [.lst ys] => if xs.length + ys.length ≤ 16777216 then some (.lst (xs ++ ys), .non) else none
  | _, _ => none
def popF : D → List D → Option (D × D)
  | .lst xs, [] => match xs[xs.length - 1]? with
    | some d => some (.lst xs.dropLast, d)
    | none => none
  | _, _ => none
def popAtF : D → List D → Option (D × D)
  | .lst xs, [.int i] => if -(2 ^ 63) ≤ i ∧ i < 2 ^ 63 then match seqIndex? i xs.length with
      | some k => match xs[k]? with
        | some d => some (.lst (xs.eraseIdx k), d)
        | none => none
      | none => none
    else none
  | _, _ => none
section
variable {C : Cn}
theorem den_non {G : Hp} : den C.b G .non .non := by unfold den; rfl
theorem appD : MutD C appF rAppend := by
  intro G H p d d' res ds xs Q s oa dn hf h
  unfold appF at hf
  split at hf
  · split at hf
    · rename_i hz
      cases hf
      obtain ⟨vs, h1, h2⟩ := oa
      unfold denL at dn
      obtain ⟨v, r, rfl, d1, d2⟩ := dn
      unfold denL at d2
      subst d2
      refine ⟨p, vs, v, rfl, rfl, h1, by rw [sz_eq, ← h2.len]; exact hz, h _ _ ⟨_, upd_same, ?_⟩ den_non⟩
      exact denL_iff.mpr (pd_app (denL_iff.mp h2) (.cons d1 .nil))
    · cases hf
  · cases hf
theorem extD : MutD C extF rExtend := by
  intro G H p d d' res ds xs Q s oa dn hf h
  unfold extF at hf
  split at hf
  · split at hf
    · rename_i hz
      cases hf
      obtain ⟨vs, h1, h2⟩ := oa
      unfold denL at dn
      obtain ⟨v, r, rfl, d1, d2⟩ := dn
      unfold denL at d2
      subst d2
      unfold den at d1
      obtain ⟨b, zs, rfl, g1, g2⟩ := d1
      refine ⟨p, b, vs, zs, rfl, rfl, h1, s _ _ g1, by rw [sz_eq, ← h2.len, ← g2.len]; exact hz, h _ _ ⟨_, upd_same, ?_⟩ den_non⟩
      exact denL_iff.mpr (pd_app (denL_iff.mp h2) (denL_iff.mp g2))
    · cases hf
  · cases hf
theorem popD : MutD C popF rPop := by
  intro G H p d d' res ds xs Q s oa dn hf h
  unfold popF at hf
  split at hf
  · split at hf
    · rename_i hx
      cases hf
      obtain ⟨vs, h1, h2⟩ := oa
      unfold denL at dn
      subst dn
      have pd := denL_iff.mp h2
      obtain ⟨v, hv, dv⟩ := pd_get pd hx
      refine ⟨p, vs, v, rfl, rfl, h1, by rw [← h2.len]; exact hv, h _ _ ⟨_, upd_same, ?_⟩ dv⟩
      rw [List.dropLast_eq_take, List.dropLast_eq_take, ← h2.len]
      exact denL_iff.mpr (pd_take _ pd)
    · cases hf
  · cases hf
theorem popAtD : MutD C popAtF rPopAt := by
  intro G H p d d' res ds xs Q s oa dn hf h
  unfold popAtF at hf
  split at hf
  · split at hf
    · rename_i hb
      split at hf
      · rename_i k hk
        split at hf
        · rename_i hx
          cases hf
          obtain ⟨vs, h1, h2⟩ := oa
          unfold denL at dn
          obtain ⟨v, r, rfl, d1, d2⟩ := dn
          unfold denL at d2
          subst d2
          unfold den at d1
          subst d1
          have pd := denL_iff.mp h2
          obtain ⟨v, hv, dv⟩ := pd_get pd hx
          exact ⟨p, vs, _, k, v, rfl, rfl, h1, hb.1, hb.2, by rw [← h2.len]; exact hk, hv, h _ _ ⟨_, upd_same, denL_iff.mpr (pd_erase k pd)⟩ dv⟩
        · cases hf
      · cases hf
    · cases hf
  · cases hf
end

/-! ### x[i] = e at an owned slot -/
def StD (C : Cn) (F : D → D → D → Option D) (t : TSet) : Prop := ∀ {Y : Gr} {G H : Hp} {σ : St} {ρ : DEnv} {p : Addr} {d d' k e : D} {kv v : V} {Q : Hp → Prop}, ED C Y G σ H ρ → ownAt C.b G H p d → DV C.b G H k kv → den C.b G e v → F d k e = some d' →
  (∀ o, ownAt C.b G (upd H p o) p d' → Q (upd H p o)) → t (.ref p) kv v H Q
def finS (i : Nat) (F : D → D → D → Option D) (k : Opd) (d : D) (ρ : DEnv) : R Fl := match look k ρ with
  | some kd => match ρ[i]? with
    | some (some (true, c)) => match F c kd d with
      | some c' => .ok .nx (ρ.set i (some (true, c')))
      | none => .bad
    | _ => .bad
  | none => .bad
def sSetI (i : Nat) (fi f : M Opd) (F : D → D → D → Option D) : M Fl := fun ρ => (f ρ).bind fun o ρ1 => match takeO o ρ1 with
  | some (d, ρ2) => match ρ2[i]? with
    | some (some (true, _)) => (nrm fi ρ2).bind fun k ρ4 => finS i F k d ρ4
    | _ => .bad
  | none => .bad
theorem ds_setI {X : Cx} {C : Cn} {W : WX} {o ie e : Expr} {f fi : M Opd} {i : Nat} {pos pos' : Pos} {t : TSet} {F : D → D → D → Option D} (hs : PSet X t) (hF : StD C F t) (he : PE X e (tE C W f)) (ho : PE X o (tE C W (eV i))) (hi : PE X ie (tE C W fi))
    (ha : ∀ v, assign (.Subscript o ie pos') X.env v = (do
      let ov ← holding [v] (eval o X.env)
      let iv ← holding [v, ov] (eval ie X.env)
      standAt pos'
      holding [v, ov, iv] (setItem ov iv v)
      release [v, ov, iv] []) := by intro _; rfl)
    (hsw : swapsWithSole [.Subscript o ie pos'] e pos.line X.env = pure false := by rfl) (hw : swappedStores [.Subscript o ie pos'] e X.env = pure none := by rfl)
    (h1 : (assignEach [.Subscript o ie pos'] X.env).map (·.2) = [assign (.Subscript o ie pos') X.env] := by rfl) : PS X (.Assign [.Subscript o ie pos'] e pos) (tS C W (sSetI i fi f F)) :=
  PS.st (ps_asg he (pg_sub ho hi hs ha) hsw hw h1) fun N σ H h => by
    obtain ⟨Y, G, ρ, E, p⟩ := h
    refine seq0 (C := C) (PostS.lk (σ := σ)) E p fun G1 H1 ρ1 op v s1 E1 od p1 => ?_
    cases e1 : takeO op ρ1 with
    | none => rw [e1] at p1; exact p1.elim
    | some z =>
      obtain ⟨d, ρ2⟩ := z
      rw [e1] at p1
      obtain ⟨G2, s2, E2, dn⟩ := takeO_ok E1 od e1
      dsimp only at p1
      split at p1
      · rename_i c0 hr0
        refine tE_var E2 hr0 fun v3 hv3 G3 H3 s3 E3 => ?_
        refine seq1 (C := C) (PostS.lk (σ := σ)) E3 (PostS.mono (s2.trans s3) p1) fun G4 H4 ρ4 k kv s4 pl E4 od4 p4 => ?_
        unfold finS at p4
        cases l : look k ρ4 with
        | none => rw [l] at p4; exact p4.elim
        | some kd =>
          rw [l] at p4
          dsimp only at p4
          split at p4
          · rename_i c hr
            cases hf : F c kd d with
            | none => rw [hf] at p4; exact p4.elim
            | some c' =>
              rw [hf] at p4
              obtain ⟨a, h1, gn, oa, hB⟩ := E4.own i c hr
              rw [hv3] at h1; cases h1
              exact hF E4 oa (look_ok E4 od4 l) (den.mono (s3.trans s4) _ _ dn) hf fun o oa' => p4 G4 σ _ Sub.rfl (E4.mut hr hv3 oa')
          · exact p4.elim
      · exact p1.elim
def setF : D → D → D → Option D
  | .lst xs, .int i, d => match ixN xs.length i with
    | some j => some (.lst (xs.set j d))
    | none => none
  | _, _, _ => none
theorem setD {C : Cn} : StD C setF rSetL := by
  intro Y G H σ ρ p d d' k e kv v Q E oa hk dn hf h
  unfold setF at hf
  split at hf
  · split at hf
    · rename_i j hj
      cases hf
      obtain ⟨vs, h1, h2⟩ := oa
      refine ⟨p, vs, _, j, rfl, hk.int, h1, by rw [← h2.len]; exact hj, h _ ⟨_, upd_same, denL_iff.mpr (pd_set dn j (denL_iff.mp h2))⟩⟩
    · cases hf
  · cases hf
end DL

set_option Elab.async false
set_option linter.all false
set_option maxRecDepth 100000
set_option maxHeartbeats 1000000
/-! The data layer: dict displays; list(range). -/
namespace DL
open PySem PySem.Spec L2
open PyProof.Rows hiding St

/-! ### displays of dicts -/
def putKD (kvs : List (Key × D)) (k : Key) (v : D) : List (Key × D) :=
  if (kvs.any fun kv => decide (kv.1 = k)) = true then kvs.map (fun kv => if kv.1 = k then (kv.1, v) else kv) else kvs ++ [(k, v)]
def mergeD (kvs more : List (Key × D)) : List (Key × D) := more.foldl (fun acc kv => putKD acc kv.1 kv.2) kvs
def keyD : D → Option Key
  | .int i => some (.inl i)
  | .str s => some (.inr s)
  | _ => none
def keysD : List D → Option (List Key)
  | [] => some []
  | d :: ds => match keyD d, keysD ds with
    | some k, some ks => some (k :: ks)
    | _, _ => none
abbrev pdK (C : Cb) (G : Hp) : Key × D → Key × V → Prop := fun p q => p.1 = q.1 ∧ den C G p.2 q.2
section
variable {C : Cb} {G : Hp}
theorem pd_any {F : Key × D → Key × V → Prop} (hF : ∀ p q, F p q → p.1 = q.1) {k : Key} : ∀ {xs : List (Key × D)} {ys : List (Key × V)}, Paired F xs ys → (xs.any fun kv => decide (kv.1 = k)) = ys.any fun kv => decide (kv.1 = k)
  | _, _, .nil => rfl
  | _, _, .cons (a := a) (b := b) r t => by
    rw [List.any_cons, List.any_cons, pd_any hF t, hF _ _ r]
theorem pd_putMap {k : Key} {d : D} {v : V} (h : den C G d v) : ∀ {xs : List (Key × D)} {ys : List (Key × V)}, Paired (pdK C G) xs ys → Paired (pdK C G) (xs.map fun kv => if kv.1 = k then (kv.1, d) else kv) (ys.map fun kv => if kv.1 = k then (kv.1, v) else kv)
  | _, _, .nil => .nil
  | _, _, .cons (a := a) (b := b) r t => by
    rw [List.map_cons, List.map_cons]
    refine .cons ?_ (pd_putMap h t)
    have e : a.1 = b.1 := r.1
    by_cases hk : a.1 = k
    · rw [if_pos hk, if_pos (e ▸ hk)]; exact ⟨e, h⟩
    · rw [if_neg hk, if_neg (e ▸ hk)]; exact r
theorem pd_put {k : Key} {d : D} {v : V} (h : den C G d v) {xs : List (Key × D)} {ys : List (Key × V)} (p : Paired (pdK C G) xs ys) : Paired (pdK C G) (putKD xs k d) (putK ys k v) := by
  unfold putKD putK
  rw [pd_any (fun _ _ q => q.1) p]
  split
  · exact pd_putMap h p
  · exact pd_app p (.cons ⟨rfl, h⟩ .nil)
theorem pd_merge : ∀ {ms : List (Key × D)} {ns : List (Key × V)} {xs : List (Key × D)} {ys : List (Key × V)}, Paired (pdK C G) ms ns → Paired (pdK C G) xs ys → Paired (pdK C G) (mergeD xs ms) (mergeK ys ns)
  | _, _, _, _, .nil, p => p
  | _, _, _, _, .cons (a := a) (b := b) r t, p => by
    show Paired (pdK C G) (mergeD (putKD _ a.1 a.2) _) (mergeK (putK _ b.1 b.2) _)
    have e : a.1 = b.1 := r.1
    rw [e]
    exact pd_merge t (pd_put r.2 p)
end
def eP : List (M Opd × M Opd) → M (List Opd × List Opd)
  | [] => fun ρ => .ok ([], []) ρ
  | (fk, fv) :: r => fun ρ => (nrm fk ρ).bind fun k ρ1 => (nrm fv ρ1).bind fun v ρ2 => (eP r ρ2).bind fun ps ρ3 => .ok (k :: ps.1, v :: ps.2) ρ3
def finDisp (ps : List Opd × List Opd) (ρ : DEnv) : R Opd := match (looks ps.1 ρ).bind keysD with
  | some ks => match takeAll ps.2 ρ with
    | some (ds, ρ1) => if ks.length ≤ 15 then .ok (.own (.dK (mergeD [] (ks.zip ds)))) ρ1 else .bad
    | none => .bad
  | none => .bad
def eDisp (ps : List (M Opd × M Opd)) : M Opd := fun ρ => (eP ps ρ).bind finDisp
section
variable {X : Cx} {C : Cn} {W : WX} {pos : Pos}
/-- what is asked of the pairs -/
def PostP (C : Cn) (W : WX) (Q : List V → List V → Hp → Prop) (Y : Gr) (G : Hp) (σ : St) : R (List Opd × List Opd) → Prop
  | .ok os ρ => ∀ G' H ks vs, Sub G G' → ED C Y G' σ H ρ → allPl os.1 → allPl os.2 → allOD C Y G' σ H ρ os.1 ks → allOD C Y G' σ H ρ os.2 vs → Q ks vs H
  | .exc c d ρ => ∀ T dx G' H, C.b.mg c = some (.ref T) → Sub G G' → ED C Y G' σ H ρ → XD C.b Y G' H dx d → W (.ref T) (some dx) σ H
  | .bad => False
theorem PostP.mono {Q : List V → List V → Hp → Prop} {Y : Gr} {G G' : Hp} {σ : St} (h : Sub G G') : ∀ {r : R (List Opd × List Opd)}, PostP C W Q Y G σ r → PostP C W Q Y G' σ r
  | .ok o ρ, p => fun G2 H v vs s => p G2 H v vs (h.trans s)
  | .exc c d ρ, p => fun T dx G2 H hc s => p T dx G2 H hc (h.trans s)
  | .bad, p => p
theorem PostP.lk {Y : Gr} {σ : St} {Q : List V → List V → Hp → Prop} : Lk C W Y σ (fun G r => PostP C W Q Y G σ r) := ⟨fun s p => p.mono s, fun p => p, fun p => p⟩
theorem tPairs_of : ∀ {ps : List (M Opd × M Opd)} {Y : Gr} {G : Hp} {σ : St} {H : Hp} {ρ : DEnv} {Q : List V → List V → Hp → Prop} {S : List (V × V) → Hp → Prop}, ED C Y G σ H ρ → PostP C W Q Y G σ (eP ps ρ) → (∀ qs H2, Q (qs.map (·.1)) (qs.map (·.2)) H2 → S qs H2) →
    tPairs (ps.map fun p => (tE C W p.1, tE C W p.2)) σ H S
  | [], Y, G, σ, H, ρ, Q, S, E, p, h => h [] H (p G H [] [] Sub.rfl E trivial trivial rfl rfl)
  | (fk, fv) :: r, Y, G, σ, H, ρ, Q, S, E, p, h => by
    refine seq1 (C := C) PostP.lk E p fun G1 H1 ρ1 o1 v1 s1 pl1 E1 od1 p1 => ?_
    refine seq1 (C := C) PostP.lk E1 p1 fun G2 H2 ρ2 o2 v2 s2 pl2 E2 od2 p2 => ?_
    refine tPairs_of (ps := r) (Q := fun ks vs H3 => Q (v1 :: ks) (v2 :: vs) H3) E2 ?_ fun qs H3 z => h ((v1, v2) :: qs) H3 z
    cases hf : eP r ρ2 with
    | bad => rw [hf] at p2; exact p2
    | exc c d ρ3 => rw [hf] at p2; exact p2
    | ok os ρ3 =>
      rw [hf] at p2
      intro G3 H3 ks vs s3 E3 a1 a2 ok ov
      exact p2 G3 H3 (v1 :: ks) (v2 :: vs) s3 E3 ⟨pl1, a1⟩ ⟨pl2, a2⟩ ⟨v1, ks, rfl, od1.mv pl1 (s2.trans s3), ok⟩ ⟨v2, vs, rfl, od2.mv pl2 s3, ov⟩
theorem dps_nil : PPs X pos [] [] [] := pps_nil
theorem keys_pd {G H : Hp} {C : Cb} : ∀ {ds : List D} {ks : List Key} {vs : List V}, keysD ds = some ks → Paired (DV C G H) ds vs → vs = ks.map kV
  | [], ks, vs, e, p => by cases e; cases p; rfl
  | d :: ds, ks, vs, e, p => by
    cases p with
    | cons a b =>
      unfold keysD at e
      split at e
      · rename_i k ks' h1 h2
        cases e
        rw [keys_pd h2 b]
        cases d with
        | int i => cases h1; rw [DV.int a]; rfl
        | str i => cases h1; rw [DV.str a]; rfl
        | _ => cases h1
      · cases e
theorem pairs_zip : ∀ {ks : List Key} {vs : List V} {qs : List (V × V)}, ks.length = vs.length → qs.map (·.1) = ks.map kV → qs.map (·.2) = vs → qs = (ks.zip vs).map fun kv => (kV kv.1, kv.2)
  | [], [], qs, _, h, _ => by
    cases qs with
    | nil => rfl
    | cons a b => cases h
  | k :: ks, v :: vs, qs, hl, h1, h2 => by
    cases qs with
    | nil => cases h1
    | cons q qs =>
      rw [List.map_cons, List.map_cons] at h1
      rw [List.map_cons] at h2
      obtain ⟨e1, e2⟩ := List.cons.inj h1
      obtain ⟨e3, e4⟩ := List.cons.inj h2
      rw [List.zip_cons_cons, List.map_cons, ← pairs_zip (by simpa using hl) e2 e4]
      obtain ⟨a, b⟩ := q
      dsimp only at e1 e3
      rw [e1, e3]
theorem zip_pd {G : Hp} {C : Cb} : ∀ {ks : List Key} {ds : List D} {vs : List V}, denL C G ds vs → Paired (pdK C G) (ks.zip ds) (ks.zip vs)
  | [], _, _, _ => .nil
  | k :: ks, [], vs, h => by
    unfold denL at h; subst h; exact .nil
  | k :: ks, d :: ds, vs, h => by
    unfold denL at h
    obtain ⟨v, r, rfl, h1, h2⟩ := h
    exact .cons ⟨rfl, h1⟩ (zip_pd h2)
theorem allOD.len {Y : Gr} {G : Hp} {σ : St} {H : Hp} {ρ : DEnv} : ∀ {os : List Opd} {vs : List V}, allOD C Y G σ H ρ os vs → os.length = vs.length
  | [], vs, h => by cases (show vs = [] from h); rfl
  | o :: os, vs, h => by
    obtain ⟨v, r, rfl, _, h2⟩ := h
    simp [h2.len]
theorem eP_len : ∀ {ps : List (M Opd × M Opd)} {ρ ρ' : DEnv} {os : List Opd × List Opd}, eP ps ρ = .ok os ρ' → os.1.length = os.2.length
  | [], ρ, ρ', os, h => by cases h; rfl
  | (fk, fv) :: r, ρ, ρ', os, h => by
    unfold eP at h
    cases h1 : nrm fk ρ with
    | bad => rw [h1] at h; cases h
    | exc c d ρ1 => rw [h1] at h; cases h
    | ok k ρ1 =>
      rw [h1] at h
      dsimp only [R.bind_ok] at h
      cases h2 : nrm fv ρ1 with
      | bad => rw [h2] at h; cases h
      | exc c d ρ1 => rw [h2] at h; cases h
      | ok v ρ2 =>
        rw [h2] at h
        dsimp only [R.bind_ok] at h
        cases h3 : eP r ρ2 with
        | bad => rw [h3] at h; cases h
        | exc c d ρ1 => rw [h3] at h; cases h
        | ok qs ρ3 =>
          rw [h3] at h
          cases h
          simp [eP_len h3]
theorem de_disp {ps : List (M Opd × M Opd)} {keys : List (Option Expr)} {values : List Expr} (h : PPs X pos keys values (ps.map fun p => (tE C W p.1, tE C W p.2))) (hall : keys.all (·.isSome) = true) (hl : keys.length = values.length) (h0 : keys ≠ [])
    (h15 : keys.length ≤ 15) : PE X (.Dict keys values pos) (tE C W (eDisp ps)) := PE.st (pe_disp h hall hl h0 h15) fun σ H Q q => by
  obtain ⟨Y, G, ρ, E, p⟩ := q
  intro a ha
  have f := E.off ha
  have E0 := E.prot (o := .dK []) ha
  refine tPairs_of (C := C) (W := W) (Q := fun ks vs H2 => H2 a = some (.dK []) ∧ ∃ kvs : List (Key × V), (∀ qs : List (V × V), qs.map (·.1) = ks → qs.map (·.2) = vs → qs = kvs.map fun kv => (kV kv.1, kv.2)) ∧ kvs.length ≤ 15 ∧ Q (.ref a) (upd H2 a (.dK (mergeK [] kvs)))) E0 ?_ fun qs H2 z => ?_
  · unfold eDisp at p
    cases hf : eP ps ρ with
    | bad => rw [hf] at p; exact p
    | exc c d ρ3 =>
      rw [hf] at p
      exact fun T dx G' H' hc s E' x => p T dx G' H' hc s (E'.unprot f) x.unprot
    | ok os ρ3 =>
      rw [hf] at p
      intro G' H' ks vs s E' a1 a2 ok ov
      refine ⟨(E'.cell f).1, ?_⟩
      have p' : Post C W Q Y G σ (finDisp os ρ3) := p
      unfold finDisp at p'
      cases e1 : (looks os.1 ρ3).bind keysD with
      | none => rw [e1] at p'; exact p'.elim
      | some kk =>
        rw [e1] at p'
        dsimp only at p'
        cases e2 : takeAll os.2 ρ3 with
        | none => rw [e2] at p'; exact p'.elim
        | some z =>
          obtain ⟨ds, ρ4⟩ := z
          rw [e2] at p'
          dsimp only at p'
          split at p'
          · rename_i h15'
            cases e3 : looks os.1 ρ3 with
            | none => rw [e3] at e1; cases e1
            | some kds =>
              rw [e3] at e1
              have hks := keys_pd e1 (looks_ok E' ok e3)
              obtain ⟨G2, s2, E2, dn⟩ := takeAll_ok E' a2 ov e2
              have hlen : kk.length = vs.length := by
                have l1 := ok.len
                have l2 := ov.len
                have l3 := eP_len hf
                rw [hks, List.length_map] at l1
                omega
              refine ⟨kk.zip vs, fun qs q1 q2 => pairs_zip hlen (q1.trans hks) q2, ?_, ?_⟩
              · rw [List.length_zip]; omega
              · have E3 := E2.setC (o' := .dK (mergeK [] (kk.zip vs))) f quiet_dK
                obtain ⟨E4, od4⟩ := E3.cellO (d := .dK (mergeD [] (kk.zip ds))) f ⟨_, upd_same, denK_iff.mpr (pd_merge (zip_pd dn) .nil)⟩
                exact p' G2 _ _ (s.trans s2) E4 od4
          · exact p'.elim
  · obtain ⟨h1, kvs, h2, h3, h4⟩ := z
    exact ⟨h1, kvs, h2 qs rfl rfl, h3, h4⟩
theorem de_disp0 : PE X (.Dict [] [] pos) (tE C W (eDisp [])) := PE.st pe_dnewK fun σ H Q q => by
  obtain ⟨Y, G, ρ, E, p⟩ := q
  intro a ha
  obtain ⟨E2, od⟩ := OD.fresh (d := .dK []) E ha (o := .dK []) ⟨[], upd_same, by unfold denK; rfl⟩
  exact p G _ _ Sub.rfl E2 od
end

/-! ### list(range(e)) -/
def rgD (a b : Int) : List D := (List.range (b - a).toNat).map fun i => D.int (a + (i : Nat))
def eLRg (f : M Opd) : M Opd := fun ρ => (nrm f ρ).bind fun o ρ1 => match look o ρ1 with
  | some (.int n) => if n ≤ 16777216 ∧ -(2 ^ 62) ≤ n then .ok (.own (.lst (rgD 0 n))) ρ1 else .bad
  | _ => .bad
theorem rg_pd {C : Cb} {G : Hp} (a b : Int) : denL C G (rgD a b) (rgV a b) := by
  refine denL_iff.mpr ?_
  unfold rgD rgV
  induction (List.range (b - a).toNat) with
  | nil => exact .nil
  | cons x xs ih => exact .cons (by unfold den; rfl) ih
theorem de_lrg {X : Cx} {C : Cn} {W : WX} {e : Expr} {f : M Opd} {p p' pos pos' : Pos} (hc : X.calm = true) (hg : Gl X "list") (hm : X.mg "list" = none) (hg' : Gl X "range") (hm' : X.mg "range" = none) (he : PE X e (tE C W f))
    (na : starEach [e] X.env = (false, eval e X.env) :: starEach [] X.env := by rfl) (na' : starEach [.Call (.Name "range" p') [e] [] pos'] X.env = (false, eval (.Call (.Name "range" p') [e] [] pos') X.env) :: starEach [] X.env := by rfl) :
    PE X (.Call (.Name "list" p) [.Call (.Name "range" p') [e] [] pos'] [] pos) (tE C W (eLRg f)) := PE.st (pe_listRg hc hg hm (prg_1 hg' hm' he na) na') fun σ H Q q => by
  obtain ⟨Y, G, ρ, E, p⟩ := q
  refine seq1 (C := C) Post.lk E p fun G1 H1 ρ1 o1 v1 s1 pl1 E1 od1 p1 => ?_
  cases l : look o1 ρ1 with
  | none => rw [l] at p1; exact p1.elim
  | some d =>
    rw [l] at p1
    cases d with
    | int n =>
      dsimp only at p1
      split at p1
      · rename_i hn
        refine ⟨n, (look_ok E1 od1 l).int, ⟨by omega, by omega, by omega, by omega, by omega⟩, fun q hq => ?_⟩
        obtain ⟨E2, od⟩ := OD.fresh (d := .lst (rgD 0 n)) E1 hq (o := .lst (rgV 0 n)) ⟨_, upd_same, rg_pd 0 n⟩
        exact p1 G1 _ _ Sub.rfl E2 od
      · exact p1.elim
    | _ => exact p1.elim
end DL

set_option Elab.async false
set_option linter.all false
set_option maxRecDepth 100000
set_option maxHeartbeats 1000000
/-! The data layer: defs and calls. -/
namespace DL
open PySem PySem.Spec L2
open PyProof.Rows hiding St

/-! ### what a def promises, where no guard stands around -/
structure FnD (P : Program) (w : World) (K : PySem.W.Frag) (mg : Str → Option Value) (base : Heap) (k : Nat) (f : Addr) (fd : FuncData) (ps : List Str) (sp : Sp) : Prop where
  cnt : ∀ vs H Q E, sp vs H Q E → vs.length = ps.length
  go : ∀ (A : Around) (outer : List Env) (s : Shared) (H : Hp) (args : Args) (us : List Value) (vs : List V) (Q : VK) (E : XK), Room k A → A.guards = some [] → Env0 P w K mg base A outer s H → BindsTo s fd args (ps.zip us) → Vals vs us → sp vs H Q E →
    codeAny (model P w) A (.call (.ref f) args) (CR (CX P w) outer P w H s Q E) s
theorem FnD.mono {P : Program} {w : World} {K : PySem.W.Frag} {mg : Str → Option Value} {base : Heap} {j k : Nat} {f : Addr} {fd : FuncData} {ps : List Str} {sp : Sp} (F : FnD P w K mg base j f fd ps sp) (h : j ≤ k) : FnD P w K mg base k f fd ps sp :=
  ⟨F.cnt, fun A o s H a us vs Q E hr => F.go A o s H a us vs Q E (hr.mono h)⟩
def TkC (X : Cx) (W : WX) : Prop := ∀ (pins : List (Addr × Obj)) (σ : St) (H : Hp) (s : Shared) (e : Value) (s' : Shared), Inv X pins σ H s → CX X.prog X.w X.stack H s (fun c d H' => W c d σ H') e s' → X.xe e s'
theorem TkC.of {X : Cx} {W : WX} (tk : Takes X W) : TkC X W := fun _ _ _ _ _ _ I c => tk _ _ (XE.of_call I (fun _ _ _ h => h) c)
theorem TkC.none {X : Cx} : TkC X WF := fun _ _ _ _ _ _ _ c => by
  obtain ⟨a, B, H', cls, d, _, _, _, _, _, _, _, z⟩ := c
  exact z.elim
def tCallD (sp : Sp) (W : WX) (t : TA) : TE := fun σ H Q => t σ H fun vs H1 => sp vs H1 Q fun c d H' => W c d σ H'
section
variable {X : Cx} {W : WX} {k : Nat} {f : Addr} {fd : FuncData} {ps : List Str} {sp : Sp} {x : Str} {p pos : Pos} {e : Expr} {es : List Expr} {t : TA}
theorem run_d {pins : List (Addr × Obj)} {σ : St} {H : Hp} {s : Shared} {Q : VK} {us : List Value} {vs : List V} (F : FnD X.prog X.w X.K X.mg X.base k f fd ps sp) (hr : Room k X.A) (hgd : X.A.guards = some []) (hb : Binds X.K fd ps []) (tk : TkC X W)
    (I : Inv X pins σ H s) (r : Vals vs us) (h : sp vs H Q fun c d H' => W c d σ H') : wpAny (model X.prog X.w) X.A (call (.ref f) us) (EP X pins σ Q) X.xe s := by
  have hl : (us ++ []).length = ps.length := by rw [List.append_nil, ← r.length]; exact F.cnt _ _ _ _ h
  have b := hb s us I.kIn hl
  rw [List.append_nil] at b
  refine wpAny_call (codeAny_mono (F.go X.A X.stack s H ⟨us, []⟩ us vs Q _ hr hgd I.env0 b r h) fun res s' hq => ?_)
  match res, hq with
  | .error e, hq => exact tk pins σ H s e s' I hq
  | .ok (.ret u), hq => exact I.after hq
theorem pe_callD (F : FnD X.prog X.w X.K X.mg X.base k f fd ps sp) (hr : Room k X.A) (hgd : X.A.guards = some []) (hg : Gl X x) (hm : X.mg x = some (.ref f)) (hk : PySem.W.keepIn X.K (.ref f) = true) (hb : Binds X.K fd ps []) (tk : TkC X W)
    (ha : PA X (e :: es) t) (hdb : (x == ("__debug__" : Str)) = false := by decide) (he : starEach (e :: es) X.env = (false, eval e X.env) :: starEach es X.env := by rfl) (hpl : (backTo pos (starEach es X.env)).any (·.1) = false := by rfl) :
    PE X (.Call (.Name x p) (e :: es) [] pos) (tCallD sp W t) :=
  ⟨fun pins s σ H Q I h => wpAny_Call_Name_kw (ld_glob I hg hm (PySem.W.callWith_K (h₀ := X.base) I.ok.mod.kin hk (thn (ha.run pos pins s σ H _ I h) fun us s1 ⟨vs, H1, I1, r, q⟩ => ⟨I1.kIn, run_d F hr hgd hb tk I1 r q⟩) he hpl) hdb)⟩
theorem pe_callD0 (F : FnD X.prog X.w X.K X.mg X.base k f fd ps sp) (hr : Room k X.A) (hgd : X.A.guards = some []) (hg : Gl X x) (hm : X.mg x = some (.ref f)) (hk : PySem.W.keepIn X.K (.ref f) = true) (hb : Binds X.K fd ps []) (tk : TkC X W)
    (hdb : (x == ("__debug__" : Str)) = false := by decide) : PE X (.Call (.Name x p) [] [] pos) (tCallD sp W tNil) :=
  ⟨fun pins s σ H Q I h => wpAny_Call_Name_kw (ld_glob I hg hm (PySem.W.callWith_K0 I.kIn hk (run_d (us := []) F hr hgd hb tk I .nil h)) hdb)⟩
end
/-- a def of the text, by its body -/
theorem fnD_of {P : Program} {w : World} {K : PySem.W.Frag} {mg : Str → Option Value} {base : Heap} {k : Nat} {f : Addr} {name qual : Str} {params : Arguments} {body : List Stmt} {scope : Scope} {dV kV doc pm cdv ct oc : Value} {an od : Option Addr}
    {osl : Array (Option Value)} {N ps : List Str} {sp : Sp} (lk : K.lookup f = some ⟨oc, od, .func (PySem.W.fnOf name qual params body scope dV kV doc pm an cdv ct), osl⟩) (hcd : PySem.W.codeIn K cdv qual = true) (S : FnScope N ps scope)
    (len : ∀ vs H Q E, sp vs H Q E → vs.length = ps.length)
    (hbody : ∀ (A : Around) (outer : List Env) (s : Shared) (H : Hp) (vs : List V) (Q : VK) (E : XK), Room k (A.deeper (envOfC qual scope s.heap.objs.size f cdv)) → A.guards = some [] → sp vs H Q E →
      ∃ t, PSs (cxOf (CX P w) P w K mg base N qual scope f cdv A outer s H E) body t ∧ t { nx := fun _ H' => Q .non H', rt := Q } (start N vs) H) :
    FnD P w K mg base (k + 1) f (PySem.W.fnOf name qual params body scope dV kV doc pm an cdv ct) ps sp := by
  refine ⟨len, fun A outer s H args us vs Q E hr hgd e0 hb r hsp => ?_⟩
  have hn := len _ _ _ _ hsp
  have kin : K.In s.heap := e0.mod.kin.keeps fun _ _ q => (e0.bs _ _ q).1
  have par : ∀ y ∈ ps.zip us, scope.names.lookup y.1 = some .local ∨ (scope.names.lookup y.1 = some .cell ∧ ((cellsFrom (s.heap.objs.size + 1) scope.names []).lookup y.1).isSome = true) := by
    rintro ⟨y, v⟩ hy
    exact (S.par y (List.of_mem_zip hy).1).imp id fun q => ⟨q, PySem.W.cellsFrom_some _ _ _ (.inl q)⟩
  refine codeAny_call_function hr.depth (kin _ _ lk) rfl S.co S.gen rfl (PySem.W.codeRec_of kin hcd) (hb _ _ _ _ (wpAny_newFunctionEnv_cells S.kind par fun env he s1 x => ?_))
  subst he
  refine ⟨(e0.mod.nolimit.keeps fun _ _ q => (e0.bs _ _ q).1).keeps x.toInCall.keep, codeAny_func ?_⟩
  obtain ⟨t, ht, hq⟩ := hbody A outer s H vs Q E (hr.deeper _) hgd hsp
  have I0 : Inv (cxOf (CX P w) P w K mg base N qual scope f cdv A outer s H E) [] (start N vs) H s1 := inv_start S hr.hd e0 hn r x
  refine wpAny_mono (ht.run [] s1 (start N vs) H _ I0 hq) (fun fl s' hs => ?_) fun _ _ q => q
  match fl, hs with
  | .ret u, ⟨v, σ', H', J, rv, q⟩ => exact ⟨v, H', J.os, J.bare, J.base, J.hok, rv, q⟩
  | .next, ⟨σ', H', J, q⟩ => exact ⟨V.non, H', J.os, J.bare, J.base, J.hok, (rfl : (Value.none = Value.none)), q⟩
  | .brk, ⟨_, _, _, q⟩ => exact q.elim
  | .cont, ⟨_, _, _, q⟩ => exact q.elim
end DL

set_option Elab.async false
set_option linter.all false
set_option maxRecDepth 100000
set_option maxHeartbeats 1000000
/-! The data layer: what a def is in the mirror; calls; the law's call. -/
namespace DL
open PySem PySem.Spec L2
open PyProof.Rows hiding St

/-! ### the arguments of a call -/
/-- the parameters' slots stand for these values -/
structure ArgD (C : Cb) (G H : Hp) (vs : List V) (ρa : DEnv) : Prop where
  sub : Sub G H
  tb : LamX.Tabs C.T H
  gt : ∀ a ∈ C.T.map (·.1), G a = none
  len : ρa.length = vs.length
  frz : ∀ (j : Nat) (d : D), ρa[j]? = some (some (false, d)) → ∃ v, vs[j]? = some v ∧ den C G d v
  own : ∀ (j : Nat) (d : D), ρa[j]? = some (some (true, d)) → ∃ p, vs[j]? = some (.ref p) ∧ G p = none ∧ ownAt C G H p d
  ap : ∀ (i j : Nat) (d e : D) (p : Addr), i ≠ j → ρa[i]? = some (some (true, d)) → ρa[j]? = some (some (true, e)) → vs[i]? = some (.ref p) → vs[j]? = some (.ref p) → False
/-- what is borrowed -/
def borA : DEnv → List V → Nat → List (Nat × Addr)
  | some (true, _) :: ρ, .ref p :: vs, k => (k, p) :: borA ρ vs (k + 1)
  | _ :: ρ, _ :: vs, k => borA ρ vs (k + 1)
  | _, _, _ => []
theorem borA_mem : ∀ {ρ : DEnv} {vs : List V} {k j : Nat} {p : Addr}, (j, p) ∈ borA ρ vs k ↔ ∃ m d, j = k + m ∧ ρ[m]? = some (some (true, d)) ∧ vs[m]? = some (.ref p)
  | [], vs, k, j, p => by simp [borA]
  | x :: ρ, [], k, j, p => by
    have : borA (x :: ρ) [] k = [] := by unfold borA; split <;> first | rfl | simp_all
    rw [this]; simp
  | x :: ρ, v :: vs, k, j, p => by
    have ih := @borA_mem ρ vs (k + 1) j p
    by_cases hx : ∃ d q, x = some (true, d) ∧ v = .ref q
    · obtain ⟨d, q, rfl, rfl⟩ := hx
      show (j, p) ∈ (k, q) :: borA ρ vs (k + 1) ↔ _
      rw [List.mem_cons, ih]
      constructor
      · rintro (e | ⟨m, d', rfl, h1, h2⟩)
        · cases e; exact ⟨0, d, rfl, rfl, rfl⟩
        · exact ⟨m + 1, d', by omega, by simpa using h1, by simpa using h2⟩
      · rintro ⟨m, d', rfl, h1, h2⟩
        cases m with
        | zero => left; simp at h1 h2; rw [h2]; rfl
        | succ m => right; exact ⟨m, d', by omega, by simpa using h1, by simpa using h2⟩
    · have e : borA (x :: ρ) (v :: vs) k = borA ρ vs (k + 1) := by
        match x, v, hx with
        | none, v, _ => cases v <;> rfl
        | some (false, d), v, _ => cases v <;> rfl
        | some (true, d), .ref q, hx => exact (hx ⟨d, q, rfl, rfl⟩).elim
        | some (true, d), .non, _ => rfl
        | some (true, d), .int _, _ => rfl
        | some (true, d), .bl _, _ => rfl
        | some (true, d), .str _, _ => rfl
        | some (true, d), v, hy => cases v <;> first | rfl | exact (hy ⟨_, _, rfl, rfl⟩).elim
      rw [e, ih]
      constructor
      · rintro ⟨m, d', rfl, h1, h2⟩
        exact ⟨m + 1, d', by omega, by simpa using h1, by simpa using h2⟩
      · rintro ⟨m, d', rfl, h1, h2⟩
        cases m with
        | zero => simp at h1 h2; exact (hx ⟨_, _, h1, h2⟩).elim
        | succ m => exact ⟨m, d', by omega, by simpa using h1, by simpa using h2⟩
/-- a def's ground -/
def grA (T : List (Addr × Str)) (G H : Hp) (vs : List V) (ρa : DEnv) : Gr := ⟨H, G, borA ρa vs 0, T⟩
/-- its slots at the entry -/
def startD (n : Nat) (ρa : DEnv) : DEnv := ρa ++ List.replicate (n - ρa.length) none
theorem startD_get {n : Nat} {ρa : DEnv} {i : Nat} {y : Bool × D} (h : (startD n ρa)[i]? = some (some y)) : ρa[i]? = some (some y) := by
  unfold startD at h
  by_cases hi : i < ρa.length
  · rwa [List.getElem?_append_left hi] at h
  · rw [List.getElem?_append_right (by omega), List.getElem?_replicate] at h
    split at h <;> cases h
theorem start_get {N : List Str} {vs : List V} {i : Nat} {v : V} (h : vs[i]? = some v) : (L2.start N vs)[i]? = some (some v) := by
  unfold L2.start
  have hi : i < vs.length := (List.getElem?_eq_some_iff.mp h).1
  rw [List.getElem?_append_left (by simpa using hi), List.getElem?_map, h]; rfl
theorem start_get' {N : List Str} {vs : List V} {i : Nat} {v : V} (h : (L2.start N vs)[i]? = some (some v)) : vs[i]? = some v := by
  unfold L2.start at h
  by_cases hi : i < vs.length
  · rw [List.getElem?_append_left (by simpa using hi), List.getElem?_map] at h
    cases e : vs[i]? with
    | none => rw [e] at h; cases h
    | some a => rw [e] at h; cases h; rfl
  · rw [List.getElem?_append_right (by simpa using hi), List.getElem?_replicate] at h
    split at h <;> cases h
theorem ArgD.start {b : Cb} {G H : Hp} {vs : List V} {ρa : DEnv} (a : ArgD b G H vs ρa) (N : List Str) : ED ⟨b, vs.length⟩ (grA b.T G H vs ρa) G (L2.start N vs) H (startD N.length ρa) := by
  refine ⟨a.sub, fun i d h => ?_, fun i d h => ?_, fun i j d e p hij h1 h2 h3 h4 => a.ap i j d e p hij (startD_get h1) (startD_get h2) (start_get' h3) (start_get' h4), ?_, fun i p hb => ?_, fun a o h _ _ => h, fun a o h => .inr (.inl h), Sub.rfl, ⟨rfl, a.tb⟩, a.gt⟩
  · obtain ⟨v, h1, h2⟩ := a.frz i d (startD_get h)
    exact ⟨v, start_get h1, h2⟩
  · have h := startD_get h
    obtain ⟨p, h1, h2, h3⟩ := a.own i d h
    exact ⟨p, start_get h1, h2, h3, .inr (borA_mem.mpr ⟨i, d, by omega, h, h1⟩)⟩
  · unfold startD L2.start
    rw [List.length_append, List.length_append, List.length_replicate, List.length_replicate, List.length_map, a.len]
  · obtain ⟨m, d, rfl, h1, h2⟩ := borA_mem.mp hb
    rw [Nat.zero_add]
    obtain ⟨q, _, _, oa⟩ := a.own m d h1
    have hm := (List.getElem?_eq_some_iff.mp h2).1
    refine ⟨start_get h2, hm, true, d, ?_, oa.cont, .inl rfl⟩
    unfold startD
    rw [List.getElem?_append_left (by rw [a.len]; exact hm), h1]

/-- the promise of a def whose mirror is m, over nN slots -/
def spM (b : Cb) (np nN : Nat) (m : M Fl) : Sp := fun vs H Q E => vs.length = np ∧ ∃ G ρa, ArgD b G H vs ρa ∧ PostS ⟨b, np⟩ (fun T dx _ H' => E T dx H') { nx := fun _ H' => Q .non H', rt := Q } (grA b.T G H vs ρa) G (m (startD nN ρa))

/-! ### the call -/
def argS (o : Opd) (ρ : DEnv) : Option Slot := match o with
  | .val d => some (some (false, d))
  | .own _ => none
  | .slot i => match ρ[i]? with
    | some (some x) => some (some x)
    | _ => none
def argsS : List Opd → DEnv → Option DEnv
  | [], _ => some []
  | o :: os, ρ => match argS o ρ, argsS os ρ with
    | some x, some r => some (x :: r)
    | _, _ => none
def ownIx (o : Opd) (ρ : DEnv) : Option Nat := match o with
  | .slot i => match ρ[i]? with
    | some (some (true, _)) => some i
    | _ => none
  | _ => none
/-- no owned slot is handed over twice -/
def apart : List Opd → DEnv → Bool
  | [], _ => true
  | o :: os, ρ => (match ownIx o ρ with
    | some i => os.all fun o' => decide (ownIx o' ρ ≠ some i)
    | none => true) && apart os ρ
def backD (ρ ρ' : DEnv) : List Opd → Nat → DEnv
  | [], _ => ρ
  | o :: os, j => match ownIx o ρ with
    | some i => (backD ρ ρ' os (j + 1)).set i (ρ'[j]?.getD none)
    | none => backD ρ ρ' os (j + 1)
def finC (os : List Opd) (ρ : DEnv) (r : R Fl) : R Opd := match r with
  | .ok .nx ρ' => .ok (.val .non) (backD ρ ρ' os 0)
  | .ok (.rt (.slot _)) _ => .bad
  | .ok (.rt o) ρ' => .ok o (backD ρ ρ' os 0)
  | .exc c d ρ' => .exc c d (backD ρ ρ' os 0)
  | _ => .bad
/-- a call of the def whose mirror is m -/
def callM (np nN : Nat) (m : M Fl) (os : List Opd) (ρ : DEnv) : R Opd := match argsS os ρ with
  | some ρa => if os.length = np ∧ apart os ρ = true then finC os ρ (m (startD nN ρa)) else .bad
  | none => .bad
def eCall (np nN : Nat) (m : M Fl) (fs : List (M Opd)) : M Opd := fun ρ => (eA fs ρ).bind (callM np nN m)

theorem ownIx_some {o : Opd} {ρ : DEnv} {i : Nat} (h : ownIx o ρ = some i) : o = .slot i ∧ ∃ d, ρ[i]? = some (some (true, d)) := by
  cases o with
  | val _ => cases h
  | own _ => cases h
  | slot j =>
    unfold ownIx at h
    dsimp only at h
    split at h
    · rename_i d hd; cases h; exact ⟨rfl, d, hd⟩
    · cases h
theorem argsS_get : ∀ {os : List Opd} {ρ ρa : DEnv}, argsS os ρ = some ρa → ∀ {j : Nat} {o : Opd}, os[j]? = some o → ∃ x, argS o ρ = some x ∧ ρa[j]? = some x
  | [], ρ, ρa, h, j, o, e => by simp at e
  | o' :: os, ρ, ρa, h, j, o, e => by
    unfold argsS at h
    cases h1 : argS o' ρ with
    | none => rw [h1] at h; cases h
    | some x =>
      cases h2 : argsS os ρ with
      | none => rw [h1, h2] at h; cases h
      | some r =>
        rw [h1, h2] at h
        cases h
        cases j with
        | zero => simp at e; subst e; exact ⟨x, h1, rfl⟩
        | succ j =>
          obtain ⟨y, y1, y2⟩ := argsS_get h2 (j := j) (by simpa using e)
          exact ⟨y, y1, by simpa using y2⟩
theorem argsS_len : ∀ {os : List Opd} {ρ ρa : DEnv}, argsS os ρ = some ρa → ρa.length = os.length
  | [], ρ, ρa, h => by cases h; rfl
  | o' :: os, ρ, ρa, h => by
    unfold argsS at h
    cases h1 : argS o' ρ with
    | none => rw [h1] at h; cases h
    | some x =>
      cases h2 : argsS os ρ with
      | none => rw [h1, h2] at h; cases h
      | some r => rw [h1, h2] at h; cases h; simp [argsS_len h2]
theorem argS_own {o : Opd} {ρ : DEnv} {d : D} (h : argS o ρ = some (some (true, d))) : ∃ i, o = .slot i ∧ ρ[i]? = some (some (true, d)) := by
  cases o with
  | val _ => cases h
  | own _ => cases h
  | slot j =>
    unfold argS at h
    dsimp only at h
    split at h
    · rename_i x hd; cases h; exact ⟨j, rfl, hd⟩
    · cases h
theorem apart_ne : ∀ {os : List Opd} {ρ : DEnv}, apart os ρ = true → ∀ {i j k : Nat} {o o' : Opd}, i < j → os[i]? = some o → os[j]? = some o' → ownIx o ρ = some k → ownIx o' ρ = some k → False
  | [], ρ, h, i, j, k, o, o', _, e, _, _, _ => by simp at e
  | x :: os, ρ, h, i, j, k, o, o', hij, e1, e2, h1, h2 => by
    unfold apart at h
    obtain ⟨ha, hb⟩ := Bool.and_eq_true_iff.mp h
    cases j with
    | zero => omega
    | succ j =>
      cases i with
      | zero =>
        simp at e1; subst e1
        rw [h1] at ha
        have := List.all_eq_true.mp ha o' (List.mem_of_getElem? (by simpa using e2))
        exact (of_decide_eq_true this) h2
      | succ i => exact apart_ne hb (i := i) (j := j) (by omega) (by simpa using e1) (by simpa using e2) h1 h2
/-- what a caller's slot holds behind the call -/
theorem backD_get {ρ ρ' : DEnv} : ∀ {os : List Opd} {k i : Nat} {x : Slot}, (backD ρ ρ' os k)[i]? = some x → (∃ (m : Nat) (o : Opd), os[m]? = some o ∧ ownIx o ρ = some i ∧ x = ρ'[k + m]?.getD none) ∨ ((∀ (m : Nat) (o : Opd), os[m]? = some o → ownIx o ρ ≠ some i) ∧ ρ[i]? = some x)
  | [], k, i, x, h => .inr ⟨fun m o e => by simp at e, h⟩
  | o :: os, k, i, x, h => by
    have tail : (backD ρ ρ' os (k + 1))[i]? = some x → ownIx o ρ ≠ some i → (∃ (m : Nat) (o' : Opd), (o :: os)[m]? = some o' ∧ ownIx o' ρ = some i ∧ x = ρ'[k + m]?.getD none) ∨ ((∀ (m : Nat) (o' : Opd), (o :: os)[m]? = some o' → ownIx o' ρ ≠ some i) ∧ ρ[i]? = some x) := fun h hne => by
      rcases backD_get h with ⟨m, o', e, q, z⟩ | ⟨a, b⟩
      · exact .inl ⟨m + 1, o', by simpa using e, q, by rw [z, Nat.add_assoc, Nat.add_comm 1 m]⟩
      · refine .inr ⟨fun m o' e => ?_, b⟩
        cases m with
        | zero => simp at e; subst e; exact hne
        | succ m => exact a m o' (by simpa using e)
    unfold backD at h
    cases e : ownIx o ρ with
    | none => rw [e] at h; exact tail h (by rw [e]; simp)
    | some n =>
      rw [e] at h
      dsimp only at h
      rcases set_get h with ⟨rfl, q⟩ | ⟨hj, q⟩
      · exact .inl ⟨0, o, rfl, e, q⟩
      · exact tail q (by rw [e]; simpa using Ne.symm hj)
theorem backD_len {ρ ρ' : DEnv} : ∀ {os : List Opd} {k : Nat}, (backD ρ ρ' os k).length = ρ.length
  | [], k => rfl
  | o :: os, k => by
    unfold backD
    split
    · rw [List.length_set]; exact backD_len
    · exact backD_len
section
variable {C : Cn} {Y : Gr} {G : Hp} {σ : St} {H : Hp} {ρ ρa : DEnv} {os : List Opd} {vs : List V}
theorem allOD.get : ∀ {os : List Opd} {vs : List V}, allOD C Y G σ H ρ os vs → ∀ {j : Nat} {o : Opd}, os[j]? = some o → ∃ v, vs[j]? = some v ∧ OD C Y G σ H ρ o v
  | [], vs, h, j, o, e => by simp at e
  | x :: os, vs, h, j, o, e => by
    obtain ⟨v, r, rfl, h1, h2⟩ := h
    cases j with
    | zero => simp at e; subst e; exact ⟨v, rfl, h1⟩
    | succ j =>
      obtain ⟨w, w1, w2⟩ := allOD.get h2 (j := j) (by simpa using e)
      exact ⟨w, by simpa using w1, w2⟩
theorem args_ok (E : ED C Y G σ H ρ) (od : allOD C Y G σ H ρ os vs) (h : argsS os ρ = some ρa) (ha : apart os ρ = true) : ArgD C.b G H vs ρa := by
  have hl := argsS_len h
  have hv := od.len
  have at_ : ∀ {j : Nat} {x : Slot}, ρa[j]? = some x → ∃ o, os[j]? = some o ∧ argS o ρ = some x := fun {j x} e => by
    have hj := (List.getElem?_eq_some_iff.mp e).1
    have ho : os[j]? = some os[j] := List.getElem?_eq_getElem (by omega)
    obtain ⟨y, y1, y2⟩ := argsS_get h ho
    rw [e] at y2; cases y2
    exact ⟨_, ho, y1⟩
  refine ⟨E.sub, by rw [← E.tb.1]; exact E.tb.2, by rw [← E.tb.1]; exact E.gt, by omega, fun j d e => ?_, fun j d e => ?_, fun i j d e p hij h1 h2 h3 h4 => ?_⟩
  · obtain ⟨o, ho, hx⟩ := at_ e
    obtain ⟨v, hv, od'⟩ := od.get ho
    refine ⟨v, hv, ?_⟩
    cases o with
    | val d' => cases hx; exact od'
    | own _ => cases hx
    | slot i =>
      unfold argS at hx
      dsimp only at hx
      split at hx
      · rename_i x hr
        cases hx
        obtain ⟨w, w1, w2⟩ := E.frz i d hr
        have : σ[i]? = some (some v) := od'
        rw [this] at w1; cases w1
        exact w2
      · cases hx
  · obtain ⟨o, ho, hx⟩ := at_ e
    obtain ⟨i, rfl, hr⟩ := argS_own hx
    obtain ⟨v, hv, od'⟩ := od.get ho
    obtain ⟨p, p1, p2, p3, _⟩ := E.own i d hr
    have : σ[i]? = some (some v) := od'
    rw [this] at p1; cases p1
    exact ⟨p, hv, p2, p3⟩
  · obtain ⟨o, ho, hx⟩ := at_ h1
    obtain ⟨o', ho', hx'⟩ := at_ h2
    obtain ⟨m, rfl, hr⟩ := argS_own hx
    obtain ⟨n, rfl, hr'⟩ := argS_own hx'
    obtain ⟨v, hv1, od1⟩ := od.get ho
    obtain ⟨v', hv2, od2⟩ := od.get ho'
    rw [h3] at hv1; cases hv1
    rw [h4] at hv2; cases hv2
    by_cases hmn : m = n
    · subst hmn
      have own : ownIx (.slot m) ρ = some m := by unfold ownIx; dsimp only; rw [hr]
      rcases Nat.lt_or_gt_of_ne hij with q | q
      · exact apart_ne ha q ho ho' own own
      · exact apart_ne ha q ho' ho own own
    · exact E.ap m n d e p hmn hr hr' od1 od2
/-- back in the caller's frame -/
theorem ED.back (E : ED C Y G σ H ρ) (od : allOD C Y G σ H ρ os vs) (h : argsS os ρ = some ρa) {C' : Cn} {G' H' : Hp} {σ' : St} {ρ' : DEnv} (hC : C'.b = C.b) (sg : Sub G G') (E' : ED C' (grA C.b.T G H vs ρa) G' σ' H' ρ') : ED C Y G' σ H' (backD ρ ρ' os 0) := by
  -- the borrowed cell of argument m
  have bor : ∀ {m i : Nat} {o : Opd}, os[m]? = some o → ownIx o ρ = some i → ∃ p d0, σ[i]? = some (some (.ref p)) ∧ ρ[i]? = some (some (true, d0)) ∧ (m, p) ∈ (grA C.b.T G H vs ρa).B := fun {m i o} ho hi => by
    obtain ⟨rfl, d, hd⟩ := ownIx_some hi
    obtain ⟨p, p1, _, _, _⟩ := E.own i d hd
    obtain ⟨v, hv, od'⟩ := od.get ho
    have : σ[i]? = some (some v) := od'
    rw [this] at p1; cases p1
    obtain ⟨x, x1, x2⟩ := argsS_get h ho
    unfold argS at x1
    dsimp only at x1
    rw [hd] at x1
    cases x1
    exact ⟨p, d, this, hd, borA_mem.mpr ⟨m, d, by omega, x2, hv⟩⟩
  have unbor : ∀ {j : Nat} {p : Addr}, (j, p) ∈ (grA C.b.T G H vs ρa).B → ∃ i d, os[j]? = some (.slot i) ∧ ownIx (.slot i) ρ = some i ∧ ρ[i]? = some (some (true, d)) ∧ σ[i]? = some (some (.ref p)) := fun {j p} hb => by
    obtain ⟨m, d, rfl, h1, h2⟩ := borA_mem.mp hb
    rw [Nat.zero_add]
    have hm : m < os.length := by have := argsS_len h; have := (List.getElem?_eq_some_iff.mp h1).1; omega
    have ho : os[m]? = some os[m] := List.getElem?_eq_getElem hm
    obtain ⟨y, y1, y2⟩ := argsS_get h ho
    rw [h1] at y2; cases y2
    obtain ⟨i, e, hr⟩ := argS_own y1
    obtain ⟨v, hv, od'⟩ := od.get ho
    rw [h2] at hv; cases hv
    rw [e] at od' ho
    exact ⟨i, d, ho, by unfold ownIx; dsimp only; rw [hr], hr, od'⟩
  have hold : ∀ {a : Addr} {u : HO}, H a = some u → (∀ j, (j, a) ∉ (grA C.b.T G H vs ρa).B) → a ∉ Y.T.map (·.1) → H' a = some u := fun {a u} e hb ht => E'.old a u e hb (by rw [E.tb.1] at ht; exact ht)
  -- where an owned slot behind the call comes from
  have own0 : ∀ {i : Nat} {d : D}, (backD ρ ρ' os 0)[i]? = some (some (true, d)) → ∃ d0 p, ρ[i]? = some (some (true, d0)) ∧ σ[i]? = some (some (.ref p)) ∧ G' p = none ∧ ownAt C.b G' H' p d ∧ (Y.H0 p = none ∨ (i, p) ∈ Y.B) := fun {i d} e => by
    rcases backD_get e with ⟨m, o, ho, hi, hx⟩ | ⟨hn, hr⟩
    · obtain ⟨p, d0, p1, hd0, hb⟩ := bor ho hi
      rw [Nat.zero_add] at hx
      have hx : ρ'[m]? = some (some (true, d)) := by
        cases q : ρ'[m]? with
        | none => rw [q] at hx; cases hx
        | some y => rw [q] at hx; rw [hx]; rfl
      obtain ⟨b1, _, _⟩ := E'.bor m p hb
      obtain ⟨q, q1, q2, q3, _⟩ := E'.own m d hx
      rw [b1] at q1; cases q1
      obtain ⟨q', q1', _, _, q4⟩ := E.own i d0 hd0
      rw [p1] at q1'; cases q1'
      exact ⟨d0, p, hd0, p1, q2, hC ▸ q3, q4⟩
    · obtain ⟨p, p1, p2, p3, p4⟩ := E.own i d hr
      obtain ⟨u, hu⟩ := p3.some
      have nb : ∀ j, (j, p) ∉ (grA C.b.T G H vs ρa).B := fun j hb => by
        obtain ⟨i', d', ho, hi, hr', hs⟩ := unbor hb
        have hne : i ≠ i' := fun z => hn j _ ho (z ▸ hi)
        exact E.ap i i' d d' p hne hr hr' p1 hs
      have hH := hold hu nb (by obtain ⟨u', hu', hq⟩ := p3.quiet; exact tabs_no E.tb.2 hu' hq)
      refine ⟨d, p, hr, p1, ?_, p3.mono sg (hH.trans hu.symm), p4⟩
      cases q : G' p with
      | none => rfl
      | some w =>
        rcases E'.fz p w q with z | z | ⟨j, z⟩
        · have z' : H p = none := z
          rw [hu] at z'; cases z'
        · have z' : G p = some w := z
          rw [p2] at z'; cases z'
        · exact (nb j z).elim
  refine ⟨E'.sub, fun i d e => ?_, fun i d e => ?_, fun i j d e p hij h1 h2 h3 h4 => ?_, by rw [backD_len]; exact E.len, fun i p hb => ?_, fun a u e hb ht => ?_, fun a u e => ?_, E.g0.trans sg, ⟨E.tb.1, by rw [E.tb.1]; exact E'.tb.2⟩, by rw [E.tb.1]; exact E'.gt⟩
  · rcases backD_get e with ⟨m, o, ho, hi, hx⟩ | ⟨hn, hr⟩
    · obtain ⟨p, d0, p1, hd0, hb⟩ := bor ho hi
      rw [Nat.zero_add] at hx
      have hx : ρ'[m]? = some (some (false, d)) := by
        cases q : ρ'[m]? with
        | none => rw [q] at hx; cases hx
        | some y => rw [q] at hx; rw [hx]; rfl
      obtain ⟨b1, _, _⟩ := E'.bor m p hb
      obtain ⟨w, w1, w2⟩ := E'.frz m d hx
      rw [b1] at w1; cases w1
      exact ⟨_, p1, hC ▸ w2⟩
    · obtain ⟨w, w1, w2⟩ := E.frz i d hr
      exact ⟨w, w1, den.mono sg _ _ w2⟩
  · obtain ⟨d0, p, _, p1, p2, p3, p4⟩ := own0 e
    exact ⟨p, p1, p2, p3, p4⟩
  · obtain ⟨d1, p1, a1, _⟩ := own0 h1
    obtain ⟨d2, p2, a2, _⟩ := own0 h2
    exact E.ap i j d1 d2 p hij a1 a2 h3 h4
  · obtain ⟨h1, hn, b, d, h2, hc, h3⟩ := E.bor i p hb
    have hlt : i < (backD ρ ρ' os 0).length := by rw [backD_len]; exact (List.getElem?_eq_some_iff.mp h2).1
    rcases backD_get (List.getElem?_eq_getElem hlt) with ⟨m, o, ho, hi, hx⟩ | ⟨hne, hr⟩
    · obtain ⟨p', d0, p1, hd0, hb'⟩ := bor ho hi
      rw [h1] at p1; cases p1
      obtain ⟨b1, _, b', d', b2, bc, b3⟩ := E'.bor m p hb'
      rw [Nat.zero_add, b2] at hx
      exact ⟨h1, hn, b', d', by rw [List.getElem?_eq_getElem hlt, hx]; rfl, bc, b3⟩
    · rw [h2] at hr
      refine ⟨h1, hn, b, d, by rw [List.getElem?_eq_getElem hlt, ← hr], hc, ?_⟩
      rcases h3 with h3 | ⟨u, h3⟩
      · exact .inl h3
      · exact .inr ⟨u, sg _ _ h3⟩
  · refine hold (E.old a u e hb ht) (fun j hj => ?_) ht
    obtain ⟨i, d, _, _, hr, hs⟩ := unbor hj
    obtain ⟨q, q1, _, _, q4⟩ := E.own i d hr
    rw [hs] at q1; cases q1
    rcases q4 with q4 | q4
    · rw [q4] at e; cases e
    · exact hb i q4
  · rcases E'.fz a u e with z | z | ⟨j, z⟩
    · exact .inl (E.h0 z)
    · exact E.fz a u z
    · obtain ⟨i, d, _, _, hr, hs⟩ := unbor z
      obtain ⟨q, q1, _, _, q4⟩ := E.own i d hr
      rw [hs] at q1; cases q1
      rcases q4 with q4 | q4
      · exact .inl q4
      · exact .inr (.inr ⟨i, q4⟩)
end
section
variable {X : Cx} {C : Cn} {W : WX} {np nN : Nat} {m : M Fl} {fs : List (M Opd)}
theorem tCallD_of {σ : St} {H : Hp} {Q : VK} {t : TA} (ht : t = tA C W (eA fs)) (h : tE C W (eCall np nN m fs) σ H Q) : tCallD (spM C.b np nN m) W t σ H Q := by
  subst ht
  obtain ⟨Y, G, ρ, E, p⟩ := h
  refine seqAp (C := C) Post.lk E p fun G1 H1 ρ1 os vs s1 pl E1 ods p1 => ?_
  unfold callM at p1
  cases ha : argsS os ρ1 with
  | none => rw [ha] at p1; exact p1.elim
  | some ρa =>
    rw [ha] at p1
    dsimp only at p1
    split at p1
    · rename_i hh
      obtain ⟨hnp, hap⟩ := hh
      have A := args_ok E1 ods ha hap
      refine ⟨by rw [← ods.len]; exact hnp, G1, ρa, A, ?_⟩
      cases hm : m (startD nN ρa) with
      | bad => rw [hm] at p1; exact p1
      | exc c d ρ' =>
        rw [hm] at p1
        exact fun T dx G' σ' H' hc s E' x => p1 T dx G' H' hc s (E1.back ods ha (C' := ⟨C.b, np⟩) rfl s E') (x.back E1)
      | ok fl ρ' =>
        rw [hm] at p1
        cases fl with
        | nx => exact fun G' σ' H' s E' => p1 G' H' .non s (E1.back ods ha (C' := ⟨C.b, np⟩) rfl s E') (by unfold OD den; rfl)
        | bk => exact p1.elim
        | ct => exact p1.elim
        | rt o =>
          cases o with
          | slot i => exact p1.elim
          | val d => exact fun G' σ' H' v s E' od => p1 G' H' v s (E1.back ods ha (C' := ⟨C.b, np⟩) rfl s E') od
          | own d =>
            intro G' σ' H' v s E' od
            obtain ⟨q, rfl, gn, oa, h0, nr⟩ := od
            have Eb := E1.back ods ha (C' := ⟨C.b, np⟩) rfl s E'
            refine p1 G' H' _ s Eb ⟨q, rfl, gn, oa, E1.h0 h0, fun i e hi hs => ?_⟩
            -- its address was free when the call began
            have h0' : H1 q = none := h0
            rcases backD_get hi with ⟨m', o', ho, hix, hx⟩ | ⟨hn, hr⟩
            · obtain ⟨rfl, d0, hd0⟩ := ownIx_some hix
              obtain ⟨p', p1', _, p3, _⟩ := E1.own i d0 hd0
              rw [hs] at p1'; cases p1'
              obtain ⟨u, hu⟩ := p3.some
              rw [h0'] at hu; cases hu
            · obtain ⟨p', p1', _, p3, _⟩ := E1.own i e hr
              rw [hs] at p1'; cases p1'
              obtain ⟨u, hu⟩ := p3.some
              rw [h0'] at hu; cases hu
    · exact p1.elim
variable {k : Nat} {f : Addr} {fd : FuncData} {ps : List Str} {x : Str} {p pos : Pos} {e : Expr} {es : List Expr}
theorem de_call (hr : Room k X.A) (hgd : X.A.guards = some []) (F : FnD X.prog X.w X.K X.mg X.base k f fd ps (spM C.b np nN m)) (hg : Gl X x) (hm : X.mg x = some (.ref f)) (hk : PySem.W.keepIn X.K (.ref f) = true) (hb : Binds X.K fd ps []) (tk : TkC X W)
    (ha : PA X (e :: es) (tA C W (eA fs))) (hdb : (x == ("__debug__" : Str)) = false := by decide) (he : starEach (e :: es) X.env = (false, eval e X.env) :: starEach es X.env := by rfl) (hpl : (backTo pos (starEach es X.env)).any (·.1) = false := by rfl) :
    PE X (.Call (.Name x p) (e :: es) [] pos) (tE C W (eCall np nN m fs)) :=
  PE.st (pe_callD F hr hgd hg hm hk hb tk ha hdb he hpl) fun _ _ _ h => tCallD_of rfl h
theorem tNil_of {σ : St} {H : Hp} {Q : List V → Hp → Prop} (h : tA C W (eA []) σ H Q) : tNil σ H Q := by
  obtain ⟨Y, G, ρ, E, p⟩ := h
  exact p G H [] Sub.rfl E rfl
theorem de_call0 (hr : Room k X.A) (hgd : X.A.guards = some []) (F : FnD X.prog X.w X.K X.mg X.base k f fd ps (spM C.b np nN m)) (hg : Gl X x) (hm : X.mg x = some (.ref f)) (hk : PySem.W.keepIn X.K (.ref f) = true) (hb : Binds X.K fd ps []) (tk : TkC X W)
    (hdb : (x == ("__debug__" : Str)) = false := by decide) : PE X (.Call (.Name x p) [] [] pos) (tE C W (eCall np nN m [])) :=
  PE.st (pe_callD0 F hr hgd hg hm hk hb tk hdb) fun σ H Q h => tNil_of (tCallD_of (fs := []) rfl h)
end
/-- a def keeps the promise of its mirror -/
theorem fnM_of {P : Program} {w : World} {K : PySem.W.Frag} {mg : Str → Option Value} {base : Heap} {k : Nat} {f : Addr} {name qual : Str} {params : Arguments} {body : List Stmt} {scope : Scope} {fd : FuncData}
    {N ps : List Str} {b : Cb} {m : M Fl} (F : FunD K name qual params body scope [] [] f fd) (S : FnScope N ps scope)
    (hbody : ∀ (cdv : Value) (A : Around) (outer : List Env) (s : Shared) (H : Hp) (E : XK), Room k (A.deeper (envOfC qual scope s.heap.objs.size f cdv)) → A.guards = some [] →
      PSs (cxOf (CX P w) P w K mg base N qual scope f cdv A outer s H E) body (tS ⟨b, ps.length⟩ (fun T dx _ H' => E T dx H') m)) :
    FnD P w K mg base (k + 1) f fd ps (spM b ps.length N.length m) := by
  obtain ⟨oc, od, dV, kV, doc, pm, an, cdv, ct, osl, rfl, lk, hcd, _, _⟩ := F.ex
  refine fnD_of lk hcd S (fun vs H Q E h => h.1) fun A outer s H vs Q E hr hgd hsp => ?_
  obtain ⟨hl, G, ρa, a, p⟩ := hsp
  refine ⟨_, hbody cdv A outer s H E hr hgd, grA b.T G H vs ρa, G, startD N.length ρa, ?_, p⟩
  have := a.start N
  rw [hl] at this
  exact this
end DL

set_option Elab.async false
set_option linter.all false
set_option maxRecDepth 100000
set_option maxHeartbeats 1000000
/-! The data layer: the law's own call. -/
namespace DL
open PySem PySem.Spec L2
open PyProof.Rows hiding St

/-- what is tracked when the law begins: the script, unless it is one of the module's own objects, and the tables -/
def hp0 (ks : Bool) (a : Addr) (o : Obj) (xs : List V) (ts : List Addr) : Hp := fun b => if ks = true ∧ b = a then some (.frz o (.lst xs)) else if b ∈ ts then some (.tbl #[]) else none
theorem hp0_inv {ks : Bool} {a : Addr} {o : Obj} {xs : List V} {ts : List Addr} {b : Addr} {u : HO} (h : hp0 ks a o xs ts b = some u) : (ks = true ∧ b = a ∧ u = .frz o (.lst xs)) ∨ (b ∈ ts ∧ u = .tbl #[]) := by
  unfold hp0 at h
  split at h
  · rename_i q; cases h; exact .inl ⟨q.1, q.2, rfl⟩
  · split at h
    · rename_i q; cases h; exact .inr ⟨q, rfl⟩
    · cases h
theorem law_callD {P : Program} {w : World} {K : PySem.W.Frag} {mg mb : Str → Option Value} {k : Nat} {fa a : Addr} {cs : List (Addr × Addr)} {fd : FuncData} {x : Str} {sp : Sp} {t : Shared} {vs : List Value} {ns : List Int}
    (X : K.In t.heap) (g1 : t.heap.Ns mainGlobals mg) (g2 : t.heap.Ns builtinsNs mb) (g3 : ∀ x : Str, x ≠ "__name__" → mb x = bootBuiltins x) (g4 : t.heap.NoLimit) (g5 : t.gens = #[])
    (hT : ∀ p ∈ cs, t.heap.get? p.2 = some { cls := .none, data := .fields #[] }) (nT : ∀ p ∈ cs, K.lookup p.2 = none) (hC : ∀ p ∈ cs, PySem.W.CodeHd t.heap p.1 p.2)
    (hbm : ∃ (bm : Addr) (ob : Obj), mg "__builtins__" = some (.ref bm) ∧ bm ≠ builtinsNs ∧ t.heap.get? bm = some ob ∧ ob.cls = .type "module" ∧ ob.dict = some builtinsNs ∧ ob.data = .plain)
    (ha : t.heap.get? a = some { cls := .type "list", data := .seq vs.toArray }) (hi : IntsAre vs ns) (hl : ns.length ≤ sizeLine) (hr : Room k callerA)
    (F : ∀ base : Heap, K.In base → (∀ p ∈ cs, LamX.TabB base mg p.1 p.2) → FnD P w K mg base k fa fd [x] sp) (hbind : ∀ (s : Shared) (u : Value), BindsTo s fd ⟨[u], []⟩ [(x, u)])
    (hsp : ∀ H : Hp, (∀ p ∈ cs, H p.2 = some (.tbl #[])) → SqL K H a (ns.map V.int) → sp [.ref a] H (fun v _ => v = .bl true) fun _ _ _ => False) :
    codeAny (model P w) callerA (.call (.ref fa) ⟨[.ref a], []⟩) (fun r s' => r = .ok (.ret (.bool true)) ∧ OldK t.heap s'.heap ∧ s'.os = t.os ∧ AllBare s'.gens) t := by
  have rv := vals_ints hi
  have ln := hi.length
  let ts : List Addr := cs.map (·.2)
  have isT : ∀ {b : Addr}, b ∈ ts → ∃ p ∈ cs, p.2 = b ∧ t.heap.get? b = some { cls := .none, data := .fields #[] } := fun {b} hb => by
    obtain ⟨p, hp, rfl⟩ := List.mem_map.mp hb
    exact ⟨p, hp, rfl, hT p hp⟩
  have aT : a ∉ ts := fun z => by
    obtain ⟨p, hp, _, q⟩ := isT z
    rw [ha] at q; cases q
  let o : Obj := { cls := .type "list", data := .seq vs.toArray }
  let ks : Bool := (K.lookup a).isNone
  let H : Hp := hp0 ks a o (ns.map V.int) ts
  have hS : SqL K H a (ns.map V.int) := by
    cases e : K.lookup a with
    | none => exact .inl (.inr ⟨o, if_pos ⟨by show (K.lookup a).isNone = true; rw [e]; rfl, rfl⟩⟩)
    | some u =>
      have q := X a u e
      rw [ha] at q
      cases q
      exact .inr ⟨_, vs.toArray, _, e, rfl, rfl, rfl, by rw [List.size_toArray, ln]; exact hl, by simpa using rv⟩
  have tbl : ∀ p ∈ cs, H p.2 = some (.tbl #[]) := fun p hp => by
    have m : p.2 ∈ ts := List.mem_map.mpr ⟨p, hp, rfl⟩
    exact (if_neg (show ¬ (ks = true ∧ p.2 = a) from fun z => aT (z.2 ▸ m))).trans (if_pos m)
  have hok : HOk P w H t.heap := fun b u z => by
    rcases hp0_inv z with ⟨_, rfl, rfl⟩ | ⟨hb, rfl⟩
    · exact ⟨ha, by rw [List.length_map]; exact hl, vs, _, rv, ha⟩
    · obtain ⟨p, hp, _, q⟩ := isT hb
      exact q
  have free : ∀ {b : Addr} {ob : Obj}, t.heap.get? b = some ob → (∀ us n, ob.data ≠ .seq us n) → ob.data ≠ .fields #[] → H b = none := fun {b ob} e h1 h2 => by
    cases q : H b with
    | none => rfl
    | some u =>
      rcases hp0_inv q with ⟨_, rfl, _⟩ | ⟨hb, _⟩
      · rw [ha] at e; cases e; exact (h1 _ _ rfl).elim
      · obtain ⟨p, hp, _, q2⟩ := isT hb
        rw [q2] at e; cases e; exact (h2 rfl).elim
  have dic : ∀ {b : Addr} {ob : Obj} {es : Array DictEntry} {ep : Nat}, t.heap.get? b = some ob → ob.data = .dict es ep → H b = none := fun e d => free e (fun _ _ z => by rw [d] at z; cases z) fun z => by rw [d] at z; cases z
  have ns_ : ∀ {b : Addr} {m : Str → Option Value}, t.heap.Ns b m → (hidT t.heap H).Ns b m := fun {b m} ⟨ob, es, ep, e, d, r⟩ => ⟨ob, es, ep, hidT_get e (dic e d), d, r⟩
  have kb : K.In (hidT t.heap H) := fun b ob e => hidT_get (X b ob e) (by
    cases q : H b with
    | none => rfl
    | some u =>
      rcases hp0_inv q with ⟨hk, rfl, _⟩ | ⟨hb, _⟩
      · have hk' : (K.lookup b).isNone = true := hk
        rw [e] at hk'; cases hk'
      · obtain ⟨p, hp, rfl, _⟩ := isT hb
        rw [nT p hp] at e; cases e)
  have TB : ∀ p ∈ cs, LamX.TabB (hidT t.heap H) mg p.1 p.2 := fun p hp => by
    have hp2 := hT p hp
    refine ⟨?_, ?_, fun z => ?_⟩
    · obtain ⟨oc, us, file, tf, flags, tg, inF, text, tt, e1, e2, e3, e4⟩ := hC p hp
      exact ⟨oc, us, file, tf, flags, tg, inF, text, tt, hidT_get e1 (free e1 (fun _ _ z => by rw [e3] at z; cases z) fun z => by rw [e3] at z; cases z; simp at e4), e2, e3, e4⟩
    · obtain ⟨bm, ob, b1, b2, b3, b4, b5, b6⟩ := hbm
      refine ⟨bm, ob, b1, b2, fun z => ?_, fun z => ?_, hidT_get b3 (free b3 (fun _ _ z => by rw [b6] at z; cases z) fun z => by rw [b6] at z; cases z), b4, b5, b6⟩
      · obtain ⟨og, es, ep, e, hd, _⟩ := g1
        rw [z, e] at b3; cases b3
        rw [hd] at b6; cases b6
      · rw [z, hp2] at b3; cases b3; cases b6
    · obtain ⟨og, es, ep, e, hd, _⟩ := g1
      rw [z, hp2] at e; cases e; cases hd
  obtain ⟨mc, c1, c2⟩ := g4
  have e0 : Env0 P w K mg (hidT t.heap H) callerA [] t H := ⟨rfl, ⟨kb, ns_ g1, ⟨mb, ns_ g2, g3⟩, ⟨mc, ns_ c1, c2⟩⟩, fun _ _ e => of_hidT e, Nat.le_of_eq (hidT_size _ _), trivial, fun b z => absurd (show b ∈ ([] : List Addr) from z) (fun z => nomatch z), hok, .of_eq g5⟩
  refine codeAny_mono ((F _ kb TB).go callerA [] t H ⟨[.ref a], []⟩ [.ref a] [.ref a] _ _ hr rfl e0 (hbind t (.ref a)) (.cons rfl .nil) (hsp H tbl hS)) fun r s' h => ?_
  match r, h with
  | .error e, h =>
    obtain ⟨_, _, _, _, _, _, _, _, _, _, _, _, z⟩ := h
    exact z.elim
  | .ok (.ret u), h =>
    obtain ⟨v, H', os, bare, un, hok', rv, q⟩ := h
    have q' : v = .bl true := q
    subst q'
    obtain rfl : u = Value.bool true := rv
    have grow : ∀ p ∈ cs, ∃ more : Array Value, s'.heap.get? p.2 = some { cls := .none, data := .fields more } := fun p hp => by
      obtain ⟨more, z⟩ := un.tbls p.2 #[] (tbl p hp)
      exact ⟨_, hok' p.2 _ z⟩
    have key : ∀ (b : Addr) (ob : Obj), b ∉ ts → t.heap.get? b = some ob → s'.heap.get? b = some ob := fun b ob nb e => by
      cases q : H b with
      | none => exact un.keep b ob e q (fun z => absurd (show b ∈ ([] : List Addr) from z) fun z => nomatch z) (fun z => nomatch z)
      | some u =>
        rcases hp0_inv q with ⟨_, rfl, rfl⟩ | ⟨hb, _⟩
        · have e1 := (hok b _ q).1
          have e2 := (hok' b _ (un.frzs b _ _ q)).1
          rw [e] at e1; cases e1
          exact e2
        · exact (nb hb).elim
    refine ⟨rfl, ⟨fun b ob e => ?_, fun b ob e => ?_⟩, os, bare⟩
    · by_cases hb : b ∈ ts
      · obtain ⟨p, hp, rfl, q2⟩ := isT hb
        obtain ⟨more, hm⟩ := grow p hp
        rw [q2] at e; cases e
        exact .inr (.inl ⟨((hC p hp).tab (hT p hp)).isCodeTable, rfl, #[], more, rfl, by rw [Array.empty_append]; exact hm⟩)
      · exact .inl (key b ob hb e)
    · by_cases hb : b ∈ ts
      · obtain ⟨p, hp, rfl, _⟩ := isT hb
        obtain ⟨more, hm⟩ := grow p hp
        exact ⟨_, hm⟩
      · exact ⟨ob, key b ob hb e⟩
/-- a law over the data layer: what the top's facts give; cs: the code objects that make lambdas, and their tables -/
theorem walk_D {l : PySem.W.OpenLaw} {n k : Nat} {q : Program} {loose : List Str} {XP : (Str → Option Value) → Heap → Prop} {YP : World → Heap → Prop} {d : DefRec} {x : Str}
    (hn : l.most = some n) (hn2 : n ≤ sizeLine) (hdf : d.params.defaults = []) (hr : Room k callerA)
    (F : ∀ (w : World) (mg : Str → Option Value) (fa : Addr) (h : Heap), YP w h → h.Ns mainGlobals mg → mg d.name = some (.ref fa) →
      ∃ (K : PySem.W.Frag) (fd : FuncData) (sp : Sp) (cs : List (Addr × Addr)), K.In h ∧ (∀ p ∈ cs, h.get? p.2 = some { cls := .none, data := .fields #[] }) ∧ (∀ p ∈ cs, K.lookup p.2 = none) ∧ (∀ p ∈ cs, PySem.W.CodeHd h p.1 p.2) ∧ (∀ (s : Shared) (u : Value), BindsTo s fd ⟨[u], []⟩ [(x, u)]) ∧
        (∀ (H : Hp) (a : Addr) (ns : List Int), ns.length ≤ n → (∀ p ∈ cs, H p.2 = some (.tbl #[])) → SqL K H a (ns.map V.int) → sp [.ref a] H (fun v _ => v = .bl true) fun _ _ _ => False) ∧
        ∀ base : Heap, K.In base → (∀ p ∈ cs, LamX.TabB base mg p.1 p.2) → FnD l.prog w K mg base k fa fd [x] sp) :
    PySem.W.WalkO q loose XP YP l.row.toRowW d [] (fun f vs => PySem.call f vs) :=
  Att.attach_call hn hdf fun w s₀ t mg mb fa o pm cd doc a vs ns G Y ho hd hcd hmg hobj hints hlen hg => by
    obtain ⟨K, fd, sp, cs, X, hT, nT, hC, hb, hs, F⟩ := F w mg fa _ Y G.T.g hmg
    exact law_callD X G.T.g G.T.b G.T.builtins G.T.nolimit hg hT nT hC G.T.bmain hobj hints (Nat.le_trans hlen hn2) hr F hb fun H hH hS => hs H a ns hlen hH hS
/-- a def of the law, from its mirror: true at every script -/
theorem sp_law {b : Cb} {K : PySem.W.Frag} (hK : b.K = K) {nN n : Nat} {m : M Fl} (h : ∀ ns : List Int, ns.length ≤ n → ∃ ρ, m (startD nN [some (false, .scr ns)]) = .ok (.rt (.val (.bl true))) ρ) (H : Hp) (a : Addr) (ns : List Int) (hl : ns.length ≤ n) (hT : LamX.Tabs b.T H) (hS : SqL K H a (ns.map V.int)) :
    spM b 1 nN m [.ref a] H (fun v _ => v = .bl true) fun _ _ _ => False := by
  subst hK
  -- the frozen part: all but the tables
  let G : Hp := fun p => if p ∈ b.T.map (·.1) then none else H p
  have sb : Sub G H := fun p o e => by
    have e' : (if p ∈ b.T.map (·.1) then none else H p) = some o := e
    split at e'
    · cases e'
    · exact e'
  have ha : SqL b.K G a (ns.map V.int) := by
    have out : ∀ o, H a = some o → (∀ ps, o ≠ .tbl ps) → G a = some o := fun o e n => by
      refine (if_neg fun z => ?_).trans e
      obtain ⟨x, hx, ex⟩ := List.mem_map.mp z
      obtain ⟨ps, h1, _⟩ := hT x hx
      rw [ex, e] at h1; cases h1; exact n _ rfl
    rcases hS with (h1 | ⟨o, h1⟩) | h1
    · exact .inl (.inl (out _ h1 fun _ z => nomatch z))
    · exact .inl (.inr ⟨o, out _ h1 fun _ z => nomatch z⟩)
    · exact .inr h1
  refine ⟨rfl, G, [some (false, .scr ns)], ⟨sb, hT, fun p hp => if_pos hp, rfl, fun j d e => ?_, fun j d e => ?_, fun i j d e p hij h1 => ?_⟩, ?_⟩
  · cases j with
    | zero => cases e; exact ⟨_, rfl, by unfold den; exact ⟨a, rfl, ha⟩⟩
    | succ j => simp at e
  · cases j with
    | zero => cases e
    | succ j => simp at e
  · cases i with
    | zero => cases h1
    | succ j => simp at h1
  · obtain ⟨ρ, e⟩ := h ns hl
    rw [e]
    intro G' σ' H' v s E od
    have od' : den b G' (.bl true) v := od
    unfold den at od'
    exact od'
end DL

set_option Elab.async false
set_option linter.all false
set_option maxRecDepth 100000
set_option maxHeartbeats 1000000
/-! The data layer: short words for what is written. -/
namespace DL
open PySem PySem.Spec L2
open PyProof.Rows hiding St

/-- what the top leaves -/
structure Tp (P : Program) (K : PySem.W.Frag) (mg : Str → Option Value) (base : Heap) (errs : List Str) (tb : List (Addr × Str)) (fr : List Str) : Prop where
  err : ErrC P ⟨⟨K, mg, errs, tb⟩, 0⟩
  sm : ∃ o, base.get? sysModules = some o
  free : ∀ x ∈ fr, mg x = none
/-- what a body knows -/
structure Bd (X : Cx) (C : Cn) (W : WX) (k : Nat) (fr : List Str) : Prop where
  ct : Ct X C
  rm : Room k X.A
  tk : TkC X W
  hc : X.calm = true
  nd : X.N.Nodup
  free : ∀ x ∈ fr, X.mg x = none
theorem Bd.blk {X : Cx} {C : Cn} {W : WX} {k : Nat} {fr : List Str} (B : Bd X C W k fr) {s : Shared} {H : Hp} {scope : Scope} {ce : Env} {fp : List Addr} : Bd (X.blk s H scope ce fp) C WF k fr :=
  ⟨⟨B.ct.k, B.ct.mg, B.ct.err, B.ct.gd, B.ct.sm⟩, B.rm, TkC.none, B.hc, B.nd, B.free⟩
/-- a def that is called -/
structure Cal (P : Program) (w : World) (K : PySem.W.Frag) (mg : Str → Option Value) (base : Heap) (k : Nat) (b : Cb) (x : Str) (np nN : Nat) (m : M Fl) : Prop where
  ex : ∃ f fd ps, FnD P w K mg base k f fd ps (spM b np nN m) ∧ mg x = some (.ref f) ∧ PySem.W.keepIn K (.ref f) = true ∧ Binds K fd ps []
theorem Cal.mono {P : Program} {w : World} {K : PySem.W.Frag} {mg : Str → Option Value} {base : Heap} {j k : Nat} {b : Cb} {x : Str} {np nN : Nat} {m : M Fl} (c : Cal P w K mg base j b x np nN m) (h : j ≤ k) : Cal P w K mg base k b x np nN m := by
  obtain ⟨f, fd, ps, F, r⟩ := c.ex
  exact ⟨f, fd, ps, F.mono h, r⟩
theorem Cal.of {P : Program} {w : World} {K : PySem.W.Frag} {mg : Str → Option Value} {base : Heap} {k : Nat} {f : Addr} {name qual : Str} {params : Arguments} {body : List Stmt} {scope : Scope} {fd : FuncData} {errs fr : List Str} {tb : List (Addr × Str)}
    {N ps : List Str} {m : M Fl} (T : Tp P K mg base errs tb fr) (F : FunD K name qual params body scope [] [] f fd) (hm : mg name = some (.ref f)) (S : FnScope N ps scope) (hb : Binds K fd ps [])
    (hbody : ∀ (X : Cx) (W : WX) (cdv : Value) (A : Around) (outer : List Env) (s : Shared) (H : Hp) (E : XK), X = cxOf (CX P w) P w K mg base N qual scope f cdv A outer s H E → Bd X ⟨⟨K, mg, errs, tb⟩, ps.length⟩ W k fr → PassesOwn (model X.prog X.w) X.A X.env X.xe → Takes X W → PSs X body (tS ⟨⟨K, mg, errs, tb⟩, ps.length⟩ W m)) :
    FnD P w K mg base (k + 1) f fd ps (spM ⟨K, mg, errs, tb⟩ ps.length N.length m) ∧ Cal P w K mg base (k + 1) ⟨K, mg, errs, tb⟩ name ps.length N.length m := by
  have F' : FnD P w K mg base (k + 1) f fd ps (spM ⟨K, mg, errs, tb⟩ ps.length N.length m) := fnM_of F S fun cdv A outer s H E hr hgd => by
    refine hbody _ _ cdv A outer s H E rfl ?_ (passes_of rfl) (takes_of (X := cxOf (CX P w) P w K mg base N qual scope f cdv A outer s H E) (E := E) rfl rfl rfl rfl)
    refine ⟨⟨rfl, rfl, ?_, hgd, T.sm⟩, hr, TkC.of (takes_of (X := cxOf (CX P w) P w K mg base N qual scope f cdv A outer s H E) (E := E) rfl rfl rfl rfl), rfl, S.nd, T.free⟩
    obtain ⟨h⟩ := T.err
    exact ⟨h⟩
  exact ⟨F', f, fd, ps, F', hm, F.kp, hb⟩
section
variable {X : Cx} {C : Cn} {W : WX} {k : Nat} {fr : List Str} {a b e : Expr} {es : List Expr} {f g : M Opd} {fs : List (M Opd)} {p p2 pos : Pos}
/-! operators -/
theorem wAdd (B : Bd X C W k fr) (ha : PE X a (tE C W f)) (hb : PE X b (tE C W g)) : PE X (.BinOp a .Add b pos) (tE C W (e2 f g addF)) := pe_op2 op_addAll (addD B.ct.k) ha hb
theorem wSub (B : Bd X C W k fr) (ha : PE X a (tE C W f)) (hb : PE X b (tE C W g)) : PE X (.BinOp a .Sub b pos) (tE C W (e2 f g subF)) := pe_op2 op_sub subD ha hb
theorem wMul (B : Bd X C W k fr) (ha : PE X a (tE C W f)) (hb : PE X b (tE C W g)) : PE X (.BinOp a .Mult b pos) (tE C W (e2 f g mulF)) := pe_op2 op_mulW mulD ha hb
theorem wDiv (B : Bd X C W k fr) (ha : PE X a (tE C W f)) (hb : PE X b (tE C W g)) : PE X (.BinOp a .FloorDiv b pos) (tE C W (e2 f g divF)) := pe_op2 op_fdivW divD ha hb
theorem wMod (B : Bd X C W k fr) (ha : PE X a (tE C W f)) (hb : PE X b (tE C W g)) : PE X (.BinOp a .Mod b pos) (tE C W (e2 f g modF)) := pe_op2 op_mod modD ha hb
theorem wPow (B : Bd X C W k fr) (ha : PE X a (tE C W f)) (hb : PE X b (tE C W g)) : PE X (.BinOp a .Pow b pos) (tE C W (e2 f g powF)) := pe_op2 op_powB powD ha hb
theorem wNeg (B : Bd X C W k fr) (ha : PE X a (tE C W f)) : PE X (.UnaryOp .USub a pos) (tE C W (e1 f negF)) := pe_un1 un_neg negD ha
theorem wLt (B : Bd X C W k fr) (ha : PE X a (tE C W f)) (hb : PE X b (tE C W g)) (hm : behindInMarks .Lt b = false := by rfl) : PE X (.Compare a [.Lt] [b] pos) (tE C W (e2 f g ltF)) := pe_cmp2 op_lt ltD ha hb hm
theorem wLe (B : Bd X C W k fr) (ha : PE X a (tE C W f)) (hb : PE X b (tE C W g)) (hm : behindInMarks .LtE b = false := by rfl) : PE X (.Compare a [.LtE] [b] pos) (tE C W (e2 f g leF)) := pe_cmp2 op_le leD ha hb hm
theorem wGt (B : Bd X C W k fr) (ha : PE X a (tE C W f)) (hb : PE X b (tE C W g)) (hm : behindInMarks .Gt b = false := by rfl) : PE X (.Compare a [.Gt] [b] pos) (tE C W (e2 f g gtF)) := pe_cmp2 op_gt gtD ha hb hm
theorem wGe (B : Bd X C W k fr) (ha : PE X a (tE C W f)) (hb : PE X b (tE C W g)) (hm : behindInMarks .GtE b = false := by rfl) : PE X (.Compare a [.GtE] [b] pos) (tE C W (e2 f g geF)) := pe_cmp2 op_ge geD ha hb hm
theorem wEq (B : Bd X C W k fr) (ha : PE X a (tE C W f)) (hb : PE X b (tE C W g)) (hm : behindInMarks .Eq b = false := by rfl) : PE X (.Compare a [.Eq] [b] pos) (tE C W (e2 f g eqF)) := pe_cmp2 (op_eqD B.rm.units) (eqD B.ct.k) ha hb hm
theorem wNe (B : Bd X C W k fr) (ha : PE X a (tE C W f)) (hb : PE X b (tE C W g)) (hm : behindInMarks .NotEq b = false := by rfl) : PE X (.Compare a [.NotEq] [b] pos) (tE C W (e2 f g neF)) := pe_cmp2 (op_neD B.rm.units) (neD B.ct.k) ha hb hm
theorem xLt (B : Bd X C W k fr) (ha : PE X a (tE C W f)) (hb : PE X b (tE C W g)) (hm : behindInMarks .Lt b = false := by rfl) : PT X (.Compare a [.Lt] [b] pos) (tT C W (tV (e2 f g ltF))) := pt_cmp2 op_lt ltD ha hb hm
theorem xLe (B : Bd X C W k fr) (ha : PE X a (tE C W f)) (hb : PE X b (tE C W g)) (hm : behindInMarks .LtE b = false := by rfl) : PT X (.Compare a [.LtE] [b] pos) (tT C W (tV (e2 f g leF))) := pt_cmp2 op_le leD ha hb hm
theorem xGt (B : Bd X C W k fr) (ha : PE X a (tE C W f)) (hb : PE X b (tE C W g)) (hm : behindInMarks .Gt b = false := by rfl) : PT X (.Compare a [.Gt] [b] pos) (tT C W (tV (e2 f g gtF))) := pt_cmp2 op_gt gtD ha hb hm
theorem xGe (B : Bd X C W k fr) (ha : PE X a (tE C W f)) (hb : PE X b (tE C W g)) (hm : behindInMarks .GtE b = false := by rfl) : PT X (.Compare a [.GtE] [b] pos) (tT C W (tV (e2 f g geF))) := pt_cmp2 op_ge geD ha hb hm
theorem xEq (B : Bd X C W k fr) (ha : PE X a (tE C W f)) (hb : PE X b (tE C W g)) (hm : behindInMarks .Eq b = false := by rfl) : PT X (.Compare a [.Eq] [b] pos) (tT C W (tV (e2 f g eqF))) := pt_cmp2 (op_eqD B.rm.units) (eqD B.ct.k) ha hb hm
theorem xNe (B : Bd X C W k fr) (ha : PE X a (tE C W f)) (hb : PE X b (tE C W g)) (hm : behindInMarks .NotEq b = false := by rfl) : PT X (.Compare a [.NotEq] [b] pos) (tT C W (tV (e2 f g neF))) := pt_cmp2 (op_neD B.rm.units) (neD B.ct.k) ha hb hm
theorem wIx (B : Bd X C W k fr) (ha : PE X a (tE C W f)) (hb : PE X b (tE C W g)) (hs : PlainIx b := by intro _ _; rfl) : PE X (.Subscript a b pos) (tE C W (e2 f g ixF)) := de_ix B.ct.k ha hb hs
/-! built-ins -/
theorem boot_b {x : Str} {v : Value} (h : (match bootBuiltins x with | some u => decide (u = v) | none => false) = true) : bootBuiltins x = some v := by
  split at h
  · rename_i u e; rw [e, of_decide_eq_true h]
  · cases h
theorem bo_len : bootBuiltins "len" = some (.builtin "len") := by kernel_rfl
theorem bo_abs : bootBuiltins "abs" = some (.builtin "abs") := by kernel_rfl
theorem bo_max : bootBuiltins "max" = some (.builtin "max") := by kernel_rfl
theorem bo_min : bootBuiltins "min" = some (.builtin "min") := by kernel_rfl
theorem bo_any : bootBuiltins "any" = some (.builtin "any") := by kernel_rfl
theorem bo_all : bootBuiltins "all" = some (.builtin "all") := by kernel_rfl
theorem bo_sum : bootBuiltins "sum" = some (.builtin "sum") := by kernel_rfl
theorem bo_repr : bootBuiltins "repr" = some (.builtin "repr") := by kernel_rfl
theorem bo_int : bootBuiltins "int" = some (.type "int") := by kernel_rfl
theorem bo_str : bootBuiltins "str" = some (.type "str") := by kernel_rfl
theorem bo_bool : bootBuiltins "bool" = some (.type "bool") := by kernel_rfl
theorem bo_list : bootBuiltins "list" = some (.type "list") := by kernel_rfl
theorem bo_tuple : bootBuiltins "tuple" = some (.type "tuple") := by kernel_rfl
theorem bo_VE : bootBuiltins "ValueError" = some (.type "ValueError") := by kernel_rfl
theorem wLen (B : Bd X C W k fr) (ha : PA X (e :: es) (tA C W (eA fs))) (hx : ("len" : Str) ∈ fr := by decide) (hg : Gl X "len" := by rfl) (he : starEach (e :: es) X.env = (false, eval e X.env) :: starEach es X.env := by rfl) (hpl : (backTo pos (starEach es X.env)).any (·.1) = false := by rfl) :
    PE X (.Call (.Name "len" p) (e :: es) [] pos) (tE C W (eB fs lenF)) := de_callB call_len (lenD B.ct.k) hg (B.free _ hx) bo_len ha (by decide) (by decide) he hpl
theorem wAbs (B : Bd X C W k fr) (ha : PA X (e :: es) (tA C W (eA fs))) (hx : ("abs" : Str) ∈ fr := by decide) (hg : Gl X "abs" := by rfl) (he : starEach (e :: es) X.env = (false, eval e X.env) :: starEach es X.env := by rfl) (hpl : (backTo pos (starEach es X.env)).any (·.1) = false := by rfl) :
    PE X (.Call (.Name "abs" p) (e :: es) [] pos) (tE C W (eB fs absF)) := de_callB call_abs absD hg (B.free _ hx) bo_abs ha (by decide) (by decide) he hpl
theorem wMax (B : Bd X C W k fr) (ha : PA X (e :: es) (tA C W (eA fs))) (hx : ("max" : Str) ∈ fr := by decide) (hg : Gl X "max" := by rfl) (he : starEach (e :: es) X.env = (false, eval e X.env) :: starEach es X.env := by rfl) (hpl : (backTo pos (starEach es X.env)).any (·.1) = false := by rfl) :
    PE X (.Call (.Name "max" p) (e :: es) [] pos) (tE C W (eB fs maxF)) := de_callB (call_max2 B.hc) maxD hg (B.free _ hx) bo_max ha (by decide) (by decide) he hpl
theorem wMin (B : Bd X C W k fr) (ha : PA X (e :: es) (tA C W (eA fs))) (hx : ("min" : Str) ∈ fr := by decide) (hg : Gl X "min" := by rfl) (he : starEach (e :: es) X.env = (false, eval e X.env) :: starEach es X.env := by rfl) (hpl : (backTo pos (starEach es X.env)).any (·.1) = false := by rfl) :
    PE X (.Call (.Name "min" p) (e :: es) [] pos) (tE C W (eB fs minF)) := de_callB (call_min2 B.hc) minD hg (B.free _ hx) bo_min ha (by decide) (by decide) he hpl
theorem wAny (B : Bd X C W k fr) (ha : PA X (e :: es) (tA C W (eA fs))) (hx : ("any" : Str) ∈ fr := by decide) (hg : Gl X "any" := by rfl) (he : starEach (e :: es) X.env = (false, eval e X.env) :: starEach es X.env := by rfl) (hpl : (backTo pos (starEach es X.env)).any (·.1) = false := by rfl) :
    PE X (.Call (.Name "any" p) (e :: es) [] pos) (tE C W (eB fs anyF)) := de_callB (cr_any B.hc) (anyD B.ct.k) hg (B.free _ hx) bo_any ha (by decide) (by decide) he hpl
theorem wAll (B : Bd X C W k fr) (ha : PA X (e :: es) (tA C W (eA fs))) (hx : ("all" : Str) ∈ fr := by decide) (hg : Gl X "all" := by rfl) (he : starEach (e :: es) X.env = (false, eval e X.env) :: starEach es X.env := by rfl) (hpl : (backTo pos (starEach es X.env)).any (·.1) = false := by rfl) :
    PE X (.Call (.Name "all" p) (e :: es) [] pos) (tE C W (eB fs allF)) := de_callB (cr_all B.hc) (allD B.ct.k) hg (B.free _ hx) bo_all ha (by decide) (by decide) he hpl
theorem wSum (B : Bd X C W k fr) (ha : PA X (e :: es) (tA C W (eA fs))) (hx : ("sum" : Str) ∈ fr := by decide) (hg : Gl X "sum" := by rfl) (he : starEach (e :: es) X.env = (false, eval e X.env) :: starEach es X.env := by rfl) (hpl : (backTo pos (starEach es X.env)).any (·.1) = false := by rfl) :
    PE X (.Call (.Name "sum" p) (e :: es) [] pos) (tE C W (eB fs sumF)) := de_callB (cr_sum B.hc) (sumD B.ct.k) hg (B.free _ hx) bo_sum ha (by decide) (by decide) he hpl
theorem wRepr (B : Bd X C W k fr) (ha : PA X (e :: es) (tA C W (eA fs))) (hx : ("repr" : Str) ∈ fr := by decide) (hg : Gl X "repr" := by rfl) (he : starEach (e :: es) X.env = (false, eval e X.env) :: starEach es X.env := by rfl) (hpl : (backTo pos (starEach es X.env)).any (·.1) = false := by rfl) :
    PE X (.Call (.Name "repr" p) (e :: es) [] pos) (tE C W (eB fs reprF)) := de_callB (call_repr B.ct B.rm) reprD hg (B.free _ hx) bo_repr ha (by decide) (by decide) he hpl
theorem wInt (B : Bd X C W k fr) (ha : PA X (e :: es) (tA C W (eA fs))) (hx : ("int" : Str) ∈ fr := by decide) (hg : Gl X "int" := by rfl) (he : starEach (e :: es) X.env = (false, eval e X.env) :: starEach es X.env := by rfl) (hpl : (backTo pos (starEach es X.env)).any (·.1) = false := by rfl) :
    PE X (.Call (.Name "int" p) (e :: es) [] pos) (tE C W (eB fs intF)) := de_callTy call_int1 intD hg (B.free _ hx) bo_int ha (by decide) (by decide) he hpl
theorem wStr (B : Bd X C W k fr) (ha : PA X (e :: es) (tA C W (eA fs))) (hx : ("str" : Str) ∈ fr := by decide) (hg : Gl X "str" := by rfl) (he : starEach (e :: es) X.env = (false, eval e X.env) :: starEach es X.env := by rfl) (hpl : (backTo pos (starEach es X.env)).any (·.1) = false := by rfl) :
    PE X (.Call (.Name "str" p) (e :: es) [] pos) (tE C W (eB fs strF)) := de_callTy call_str_int strD hg (B.free _ hx) bo_str ha (by decide) (by decide) he hpl
theorem wList (B : Bd X C W k fr) (ha : PA X (e :: es) (tA C W (eA fs))) (hx : ("list" : Str) ∈ fr := by decide) (hg : Gl X "list" := by rfl) (he : starEach (e :: es) X.env = (false, eval e X.env) :: starEach es X.env := by rfl) (hpl : (backTo pos (starEach es X.env)).any (·.1) = false := by rfl) :
    PE X (.Call (.Name "list" p) (e :: es) [] pos) (tE C W (eB fs listF)) := de_callTy call_list_of (listD B.ct.k) hg (B.free _ hx) bo_list ha (by decide) (by decide) he hpl
theorem wTuple (B : Bd X C W k fr) (ha : PA X (e :: es) (tA C W (eA fs))) (hx : ("tuple" : Str) ∈ fr := by decide) (hg : Gl X "tuple" := by rfl) (he : starEach (e :: es) X.env = (false, eval e X.env) :: starEach es X.env := by rfl) (hpl : (backTo pos (starEach es X.env)).any (·.1) = false := by rfl) :
    PE X (.Call (.Name "tuple" p) (e :: es) [] pos) (tE C W (eB fs tupleF)) := de_callTy call_tuple_of (tupleD B.ct.k) hg (B.free _ hx) bo_tuple ha (by decide) (by decide) he hpl
theorem wLrg {pr pc : Pos} (B : Bd X C W k fr) (ha : PE X e (tE C W f)) (hx : ("list" : Str) ∈ fr := by decide) (hx2 : ("range" : Str) ∈ fr := by decide) (hg : Gl X "list" := by rfl) (hg2 : Gl X "range" := by rfl)
    (na : starEach [e] X.env = (false, eval e X.env) :: starEach [] X.env := by rfl) (na' : starEach [.Call (.Name "range" pr) [e] [] pc] X.env = (false, eval (.Call (.Name "range" pr) [e] [] pc) X.env) :: starEach [] X.env := by rfl) :
    PE X (.Call (.Name "list" p) [.Call (.Name "range" pr) [e] [] pc] [] pos) (tE C W (eLRg f)) := de_lrg B.hc hg (B.free _ hx) hg2 (B.free _ hx2) ha na na'
/-! classes -/
theorem wErr (B : Bd X C W k fr) {c : Str} (ha : PA X [e] (tA C W (eA [f]))) (hc : c ∈ C.b.errs := by decide) (hg : Gl X c := by rfl) (hd : (c == ("__debug__" : Str)) = false := by decide) (hs : starEach (e :: []) X.env = (false, eval e X.env) :: starEach [] X.env := by rfl) (hpl : (backTo pos (starEach [] X.env)).any (·.1) = false := by rfl) :
    PE X (.Call (.Name c p) [e] [] pos) (tE C W (eErr f c)) := de_err B.ct B.rm hc ha hg hd hs hpl
theorem wIsE (B : Bd X C W k fr) {c : Str} (he : PE X e (tE C W f)) (hc : c ∈ C.b.errs := by decide) (hx : ("isinstance" : Str) ∈ fr := by decide) (hg : Gl X "isinstance" := by rfl) (hg2 : Gl X c := by rfl) (hd : (c == ("__debug__" : Str)) = false := by decide)
    (hs : starEach (e :: [.Name c p2]) X.env = (false, eval e X.env) :: starEach [.Name c p2] X.env := by rfl) (hs2 : starEach ((.Name c p2) :: []) X.env = (false, eval (.Name c p2) X.env) :: starEach [] X.env := by rfl) (hpl : (backTo pos (starEach [.Name c p2] X.env)).any (·.1) = false := by rfl) :
    PE X (.Call (.Name "isinstance" p) [e, .Name c p2] [] pos) (tE C W (e1 f (isiF (.err c)))) := by
  obtain ⟨B', fI, cc, cda, _, _, TE⟩ := B.ct.err.ex
  obtain ⟨T, hT, _⟩ := TE c hc
  refine de_isi B.ct (.err c) (v := .ref T) (cv := .ref T) (fun B2 f2 TE2 => ?_) (fun u r => r) he (pe_glob hg2 (by rw [← B.ct.mg]; exact hT) rfl hd) hg (B.free _ hx) hs hs2 hpl
  obtain ⟨T2, hT2, q2⟩ := TE2 c hc
  rw [hT] at hT2; cases hT2
  exact ⟨T, rfl, hT, q2⟩
theorem wIsT (B : Bd X C W k fr) {n : String} {c : Str} (he : PE X e (tE C W f)) (hb : bootBuiltins c = some (.type n)) (hy : c ∈ fr := by decide) (hx : ("isinstance" : Str) ∈ fr := by decide) (hg : Gl X "isinstance" := by rfl) (hg2 : Gl X c := by rfl) (hn : c ≠ "__name__" := by decide) (hd : (c == ("__debug__" : Str)) = false := by decide)
    (hs : starEach (e :: [.Name c p2]) X.env = (false, eval e X.env) :: starEach [.Name c p2] X.env := by rfl) (hs2 : starEach ((.Name c p2) :: []) X.env = (false, eval (.Name c p2) X.env) :: starEach [] X.env := by rfl) (hpl : (backTo pos (starEach [.Name c p2] X.env)).any (·.1) = false := by rfl) :
    PE X (.Call (.Name "isinstance" p) [e, .Name c p2] [] pos) (tE C W (e1 f (isiF (.ty n)))) :=
  de_isi B.ct (.ty n) (v := .ty n) (cv := .type n) (fun B2 f2 TE2 => rfl) (fun u r => r) he (pe_bltn hg2 (B.free _ hy) hb rfl hn hd) hg (B.free _ hx) hs hs2 hpl
theorem wVal (B : Bd X C W k fr) (he : PE X e (tE C W f)) (hb : attributeBase e "value" X.env (eval e X.env) = eval e X.env := by rfl) : PE X (.Attribute e "value" pos) (tE C W (e1 f valF)) := de_value B.ct he hb
/-! calls -/
theorem wCall (B : Bd X C W k fr) {x : Str} {np nN : Nat} {m : M Fl} (c : Cal X.prog X.w X.K X.mg X.base k C.b x np nN m) (ha : PA X (e :: es) (tA C W (eA fs))) (hg : Gl X x := by rfl) (hdb : (x == ("__debug__" : Str)) = false := by decide) (he : starEach (e :: es) X.env = (false, eval e X.env) :: starEach es X.env := by rfl) (hpl : (backTo pos (starEach es X.env)).any (·.1) = false := by rfl) :
    PE X (.Call (.Name x p) (e :: es) [] pos) (tE C W (eCall np nN m fs)) := by
  obtain ⟨f', fd, ps, F, hm, hk, hb⟩ := c.ex
  exact de_call B.rm B.ct.gd F hg hm hk hb B.tk ha hdb he hpl
theorem wCall0 (B : Bd X C W k fr) {x : Str} {np nN : Nat} {m : M Fl} (c : Cal X.prog X.w X.K X.mg X.base k C.b x np nN m) (hg : Gl X x := by rfl) (hdb : (x == ("__debug__" : Str)) = false := by decide) : PE X (.Call (.Name x p) [] [] pos) (tE C W (eCall np nN m [])) := by
  obtain ⟨f', fd, ps, F, hm, hk, hb⟩ := c.ex
  exact de_call0 B.rm B.ct.gd F hg hm hk hb B.tk hdb
/-! methods of owned lists -/
variable {o : Expr} {i : Nat} {apos cpos : Pos}
theorem wApp (B : Bd X C W k fr) (ho : PE X o (tE C W (eV i))) (ha : PA X (e :: es) (tA C W (eA fs)))
    (hbase : attributeBase o "append" X.env (eval o X.env) = eval o X.env := by rfl)
    (hfew : ((backTo cpos (starEach (e :: es) X.env)).all (fun x => !x.1) && (backToKw cpos (keywordEach [] X.env)).all (fun x => x.1.isSome)
      && decide ((e :: es).length + ([] : List Keyword).length + (if ([] : List Keyword).isEmpty then 0 else 1) < 30)) = true := by rfl)
    (hline : (apos.endLine == cpos.line) = true := by rfl) (hs : starEach (e :: es) X.env = (false, eval e X.env) :: starEach es X.env := by rfl) (hplain : (backTo cpos (starEach es X.env)).any (·.1) = false := by rfl) :
    PE X (.Call (.Attribute o "append" apos) (e :: es) [] cpos) (tE C W (eMut "list" i fs appF)) := de_mut PySem.F.plainAttrs_list PySem.F.slot_list_append PySem.F.type_list_append mt_append appD ho ha hbase hfew hline hs hplain
theorem wExt (B : Bd X C W k fr) (ho : PE X o (tE C W (eV i))) (ha : PA X (e :: es) (tA C W (eA fs)))
    (hbase : attributeBase o "extend" X.env (eval o X.env) = eval o X.env := by rfl)
    (hfew : ((backTo cpos (starEach (e :: es) X.env)).all (fun x => !x.1) && (backToKw cpos (keywordEach [] X.env)).all (fun x => x.1.isSome)
      && decide ((e :: es).length + ([] : List Keyword).length + (if ([] : List Keyword).isEmpty then 0 else 1) < 30)) = true := by rfl)
    (hline : (apos.endLine == cpos.line) = true := by rfl) (hs : starEach (e :: es) X.env = (false, eval e X.env) :: starEach es X.env := by rfl) (hplain : (backTo cpos (starEach es X.env)).any (·.1) = false := by rfl) :
    PE X (.Call (.Attribute o "extend" apos) (e :: es) [] cpos) (tE C W (eMut "list" i fs extF)) := de_mut PySem.F.plainAttrs_list PySem.F.slot_list_extend PySem.F.type_list_extend mt_extend extD ho ha hbase hfew hline hs hplain
end
end DL

set_option Elab.async false
set_option linter.all false
set_option maxRecDepth 100000
set_option maxHeartbeats 1000000
/-! The data layer: slices, in, chains, split, join, zip. -/
namespace DL
open PySem PySem.Spec L2
open PyProof.Rows hiding St

/-! ### slices -/
def PostO (C : Cn) (W : WX) (Q : Option Int → Hp → Prop) (Y : Gr) (G : Hp) (σ : St) : R (Option Int) → Prop
  | .ok o ρ => ∀ G' H, Sub G G' → ED C Y G' σ H ρ → Q o H
  | .exc c d ρ => ∀ T dx G' H, C.b.mg c = some (.ref T) → Sub G G' → ED C Y G' σ H ρ → XD C.b Y G' H dx d → W (.ref T) (some dx) σ H
  | .bad => False
theorem PostO.mono {C : Cn} {W : WX} {Q : Option Int → Hp → Prop} {Y : Gr} {G G' : Hp} {σ : St} (h : Sub G G') : ∀ {r : R (Option Int)}, PostO C W Q Y G σ r → PostO C W Q Y G' σ r
  | .ok o ρ, p => fun G2 H s => p G2 H (h.trans s)
  | .exc c d ρ, p => fun T dx G2 H hc s => p T dx G2 H hc (h.trans s)
  | .bad, p => p
theorem PostO.lk {C : Cn} {W : WX} {Y : Gr} {σ : St} {Q : Option Int → Hp → Prop} : Lk C W Y σ (fun G r => PostO C W Q Y G σ r) := ⟨fun s p => p.mono s, fun p => p, fun p => p⟩
def tO (C : Cn) (W : WX) (f : M (Option Int)) : TO := fun σ H Q => ∃ Y G ρ, ED C Y G σ H ρ ∧ PostO C W Q Y G σ (f ρ)
theorem PO.st {X : Cx} {e : Option Expr} {t t' : TO} (h : PO X e t) (i : ∀ σ H Q, t' σ H Q → t σ H Q) : PO X e t' := ⟨fun pins s σ H Q I q => h.run pins s σ H Q I (i σ H Q q)⟩
def pNo : M (Option Int) := fun ρ => .ok none ρ
def pAt (f : M Opd) : M (Option Int) := fun ρ => (nrm f ρ).bind fun o ρ1 => match look o ρ1 with
  | some (.int i) => .ok (some i) ρ1
  | _ => .bad
def cutL {α : Type} (xs : List α) (lo hi : Option Int) : List α := (xs.drop (HT.sIx xs.length 0 lo)).take (HT.sIx xs.length xs.length hi - HT.sIx xs.length 0 lo)
def slF (lo hi : Option Int) : D → Option Opd
  | .lst xs => some (.own (.lst (cutL xs lo hi)))
  | .tup xs => some (.val (.tup (cutL xs lo hi)))
  | .str z => if z.length ≤ 16777216 then some (.val (.str (cutS z lo hi))) else none
  | _ => none
def eSl (f : M Opd) (l h : M (Option Int)) : M Opd := fun ρ => (nrm f ρ).bind fun o ρ1 => (l ρ1).bind fun lo ρ2 => (h ρ2).bind fun hi ρ3 => fin1 (slF lo hi) o ρ3
section
variable {X : Cx} {C : Cn} {W : WX} {k : Nat} {fr : List Str} {a b c e : Expr} {es : List Expr} {f g h : M Opd} {fs : List (M Opd)} {p p2 pos : Pos} {lo hi : Option Expr} {l u : M (Option Int)}
theorem do_no : PO X none (tO C W pNo) := PO.st po_none fun σ H Q q => by
  obtain ⟨Y, G, ρ, E, p⟩ := q
  exact p G H Sub.rfl E
theorem do_at (he : PE X e (tE C W f)) : PO X (some e) (tO C W (pAt f)) := PO.st (po_some he) fun σ H Q q => by
  obtain ⟨Y, G, ρ, E, p⟩ := q
  refine seq1 (C := C) PostO.lk E p fun G1 H1 ρ1 o v s1 pl E1 od p1 => ?_
  cases l : look o ρ1 with
  | none => rw [l] at p1; exact p1.elim
  | some d =>
    rw [l] at p1
    cases d with
    | int i => exact ⟨i, (look_ok E1 od l).int, p1 G1 H1 Sub.rfl E1⟩
    | _ => exact p1.elim
theorem cut_pd {G : Hp} {xs : List D} {vs : List V} {lo hi : Option Int} (h : denL C.b G xs vs) : denL C.b G (cutL xs lo hi) (cutV vs lo hi) := by
  unfold cutL cutV
  rw [h.len]
  exact denL_iff.mpr (pd_take _ (pd_drop _ (denL_iff.mp h)))
abbrev rSlAll (K : PySem.W.Frag) : V → Option Int → Option Int → Hp → VK → Prop := fun x lo hi H Q => rSlL K x lo hi H Q ∨ (rSlA K x lo hi H Q ∨ rSlS x lo hi H Q)
theorem sl_all : SlR X (rSlAll X.K) := SlR.or sl_list (SlR.or sl_tupA sl_str)
theorem sl_ok {K : PySem.W.Frag} (hK : C.b.K = K) {Y : Gr} {G : Hp} {σ : St} {H : Hp} {ρ : DEnv} {Q : VK} {x : V} {d : D} {lo hi : Option Int} {o : Opd} (E : ED C Y G σ H ρ) (dv : DV C.b G H d x) (hf : slF lo hi d = some o) (af : Aft C Y G σ ρ o Q) : rSlAll K x lo hi H Q := by
  unfold slF at hf
  split at hf
  · cases hf
    obtain ⟨a, vs, rfl, h1, h2⟩ := dv.lst E.sub
    exact .inl ⟨a, vs, rfl, SqL.of h1, fun q hq => af.lst E hq (cut_pd h2)⟩
  · cases hf
    rename_i xs
    obtain ⟨a, vs, rfl, h1, h2⟩ := dv.tup hK E.sub
    refine .inr (.inl ⟨a, vs, rfl, h1, fun hw => ?_, fun _ q hq => af.tup E hq (cut_pd h2)⟩)
    have : cutL xs lo hi = xs := by
      unfold cutL
      rw [h2.len, hw.1, hw.2, List.drop_zero, Nat.sub_zero, ← h2.len, List.take_length]
    rw [this] at af
    rcases dv with dv | ⟨_, _, dv⟩
    · exact af.val E dv
    · exact dv.elim
  · split at hf
    · rename_i hz
      cases hf
      rw [dv.str]
      exact .inr (.inr ⟨_, rfl, by rw [sz_eq]; exact hz, af.str E⟩)
    · cases hf
  · cases hf
theorem wSl (B : Bd X C W k fr) (he : PE X e (tE C W f)) (hl : PO X lo (tO C W l)) (hu : PO X hi (tO C W u)) : PE X (.Subscript e (.Slice lo hi none p2) pos) (tE C W (eSl f l u)) := PE.st (pe_slice sl_all he hl hu) fun σ H Q q => by
  obtain ⟨Y, G, ρ, E, p⟩ := q
  refine seq1 (C := C) Post.lk E p fun G1 H1 ρ1 o v s1 pl E1 od p1 => ?_
  refine ⟨Y, G1, ρ1, E1, ?_⟩
  cases hlo : l ρ1 with
  | bad => rw [hlo] at p1; exact p1.elim
  | exc c d ρ2 => rw [hlo] at p1; exact p1
  | ok ln ρ2 =>
    rw [hlo] at p1
    intro G2 H2 s2 E2
    refine ⟨Y, G2, ρ2, E2, ?_⟩
    have p2 := Post.mono s2 p1
    dsimp only [R.bind_ok] at p2
    cases hhi : u ρ2 with
    | bad => rw [hhi] at p2; exact p2.elim
    | exc c d ρ3 => rw [hhi] at p2; exact p2
    | ok hn ρ3 =>
      rw [hhi] at p2
      intro G3 H3 s3 E3
      have p3 := Post.mono s3 p2
      dsimp only [R.bind_ok] at p3
      unfold fin1 at p3
      cases lk : look o ρ3 with
      | none => rw [lk] at p3; exact p3.elim
      | some d =>
        rw [lk] at p3
        dsimp only at p3
        cases hf : slF ln hn d with
        | none => rw [hf] at p3; exact p3.elim
        | some o' =>
          rw [hf] at p3
          exact sl_ok B.ct.k E3 (look_ok E3 (od.mv pl (s2.trans s3)) lk) hf p3

/-! ### a op b op c -/
def eCh (f g h : M Opd) (F F' : D → D → Option Opd) : M Opd := fun ρ => (nrm f ρ).bind fun x ρ1 => (nrm g ρ1).bind fun y ρ2 => match look x ρ2, look y ρ2 with
  | some dx, some dy => match F dx dy with
    | some (.val (.bl true)) => (nrm h ρ2).bind fun z ρ3 => fin2 F' y z ρ3
    | some (.val (.bl false)) => .ok (.val (.bl false)) ρ2
    | _ => .bad
  | _, _ => .bad
theorem ch_of {r r' : R2} {F F' : D → D → Option Opd} (hF : OpD C F r) (hF' : OpD C F' r') {σ : St} {H : Hp} {Q : VK} (q : tE C W (eCh f g h F F') σ H Q) : tChain r r' (tE C W f) (tE C W g) (tE C W h) σ H Q := by
  obtain ⟨Y, G, ρ, E, p⟩ := q
  refine seq1 (C := C) Post.lk E p fun G1 H1 ρ1 x v s1 pl1 E1 od1 p1 => ?_
  refine seq1 (C := C) Post.lk E1 p1 fun G2 H2 ρ2 y w s2 pl2 E2 od2 p2 => ?_
  cases l1 : look x ρ2 with
  | none => rw [l1] at p2; exact p2.elim
  | some dx =>
    cases l2 : look y ρ2 with
    | none => rw [l1, l2] at p2; exact p2.elim
    | some dy =>
      rw [l1, l2] at p2
      dsimp only at p2
      have x1 := look_ok E2 (od1.mv pl1 s2) l1
      have x2 := look_ok E2 od2 l2
      split at p2
      · rename_i hf
        refine hF E2 x1 x2 hf fun G3 H3 z s3 E3 od3 => ?_
        have od3' : den C.b G3 (.bl true) z := od3
        unfold den at od3'
        refine ⟨true, od3', ?_⟩
        rw [if_pos rfl]
        refine seq1 (C := C) Post.lk E3 (Post.mono s3 p2) fun G4 H4 ρ4 o v4 s4 pl4 E4 od4 p4 => ?_
        exact fin2_ok hF' (P := fun G r => Post C W Q Y G σ r) E4 (od2.mv pl2 (s3.trans s4)) od4 p4 (fun q => q) (fun q => q)
      · rename_i hf
        refine hF E2 x1 x2 hf fun G3 H3 z s3 E3 od3 => ?_
        have od3' : den C.b G3 (.bl false) z := od3
        unfold den at od3'
        refine ⟨false, od3', ?_⟩
        rw [if_neg Bool.false_ne_true]
        exact p2 G3 H3 _ s3 E3 (by unfold OD den; rfl)
      · exact p2.elim
theorem pe_ch {op op' : CmpOp} {r r' : R2} {F F' : D → D → Option Opd} (ho : OpR X (compareOp op) r) (ho' : OpR X (compareOp op') r') (hF : OpD C F r) (hF' : OpD C F' r') (ha : PE X a (tE C W f)) (hb : PE X b (tE C W g)) (hc : PE X c (tE C W h))
    (hm : lastMarks [op, op'] [b, c] = false) : PE X (.Compare a [op, op'] [b, c] pos) (tE C W (eCh f g h F F')) := PE.st (pe_chain ho ho' ha hb hc hm) fun _ _ _ q => ch_of hF hF' q
theorem pt_ch {op op' : CmpOp} {r r' : R2} {F F' : D → D → Option Opd} (ho : OpR X (compareOp op) r) (ho' : OpR X (compareOp op') r') (hF : OpD C F r) (hF' : OpD C F' r') (ha : PE X a (tE C W f)) (hb : PE X b (tE C W g)) (hc : PE X c (tE C W h))
    (hm : lastMarks [op, op'] [b, c] = false) : PT X (.Compare a [op, op'] [b, c] pos) (tT C W (tV (eCh f g h F F'))) := PT.st (pt_chain ho ho' ha hb hc hm) fun _ _ _ q => ch_of hF hF' (tB_of q)
theorem wLeLe (B : Bd X C W k fr) (ha : PE X a (tE C W f)) (hb : PE X b (tE C W g)) (hc : PE X c (tE C W h)) (hm : lastMarks [.LtE, .LtE] [b, c] = false := by with_unfolding_all rfl) : PE X (.Compare a [.LtE, .LtE] [b, c] pos) (tE C W (eCh f g h leF leF)) := pe_ch op_le op_le leD leD ha hb hc hm
theorem xLeLe (B : Bd X C W k fr) (ha : PE X a (tE C W f)) (hb : PE X b (tE C W g)) (hc : PE X c (tE C W h)) (hm : lastMarks [.LtE, .LtE] [b, c] = false := by with_unfolding_all rfl) : PT X (.Compare a [.LtE, .LtE] [b, c] pos) (tT C W (tV (eCh f g h leF leF))) := pt_ch op_le op_le leD leD ha hb hc hm
theorem wLtLt (B : Bd X C W k fr) (ha : PE X a (tE C W f)) (hb : PE X b (tE C W g)) (hc : PE X c (tE C W h)) (hm : lastMarks [.Lt, .Lt] [b, c] = false := by with_unfolding_all rfl) : PE X (.Compare a [.Lt, .Lt] [b, c] pos) (tE C W (eCh f g h ltF ltF)) := pe_ch op_lt op_lt ltD ltD ha hb hc hm
theorem xLtLt (B : Bd X C W k fr) (ha : PE X a (tE C W f)) (hb : PE X b (tE C W g)) (hc : PE X c (tE C W h)) (hm : lastMarks [.Lt, .Lt] [b, c] = false := by with_unfolding_all rfl) : PT X (.Compare a [.Lt, .Lt] [b, c] pos) (tT C W (tV (eCh f g h ltF ltF))) := pt_ch op_lt op_lt ltD ltD ha hb hc hm

/-! ### split, join -/
def splitF : D → D → Option Opd
  | .str a, .str b => if (b.length == 0) = false ∧ a.length + 2 ≤ 16777216 then some (.own (.lst ((Txt.split a b).map .str))) else none
  | _, _ => none
def asStr : List D → Option (List Str)
  | [] => some []
  | .str b :: r => (asStr r).map (b :: ·)
  | _ => none
def joinS (a : Str) (ds : List D) : Option Opd := match asStr ds with
  | some ys => if (ys.map (·.length)).sum + ys.length * a.length ≤ 16777216 then some (.val (.str (Txt.join a ys))) else none
  | none => none
def joinF : D → D → Option Opd
  | .str a, .lst ds => joinS a ds
  | .str a, .tup ds => joinS a ds
  | _, _ => none
theorem asStr_den {G : Hp} : ∀ {xs : List D} {bs : List Str} {vs : List V}, asStr xs = some bs → denL C.b G xs vs → vs = bs.map V.str
  | [], bs, vs, e, h => by cases e; unfold denL at h; exact h
  | x :: xs, bs, vs, e, h => by
    unfold denL at h
    obtain ⟨v, r, rfl, h1, h2⟩ := h
    cases x with
    | str b =>
      unfold asStr at e
      cases e1 : asStr xs with
      | none => rw [e1] at e; cases e
      | some bs' =>
        rw [e1] at e; cases e
        rw [asStr_den e1 h2]
        unfold den at h1
        rw [h1]; rfl
    | _ => cases e
theorem strs_den {G : Hp} : ∀ (ys : List Str), denL C.b G (ys.map .str) (ys.map V.str)
  | [] => by unfold denL; rfl
  | y :: ys => by
    rw [List.map_cons, List.map_cons]
    unfold denL
    exact ⟨_, _, rfl, by unfold den; rfl, strs_den ys⟩
/-- a text's method with one argument -/
def eM1 (f g : M Opd) (F : D → D → Option Opd) : M Opd := fun ρ => (nrm f ρ).bind fun x ρ1 => match look x ρ1 with
  | some (.str _) => (nrm g ρ1).bind fun y ρ2 => fin2 F x y ρ2
  | _ => .bad
theorem tM1_of {r : V → List V → Hp → VK → Prop} {F : D → D → Option Opd} (hF : OpD C F fun x y H Q => r x [y] H Q) {σ : St} {H : Hp} {Q : VK} (q : tE C W (eM1 f g F) σ H Q) : tM1 r (tE C W f) (tE C W g) σ H Q := by
  obtain ⟨Y, G, ρ, E, p⟩ := q
  refine seq1 (C := C) Post.lk E p fun G1 H1 ρ1 x v s1 pl1 E1 od1 p1 => ?_
  split at p1
  · rename_i z l
    refine ⟨⟨z, (look_ok E1 od1 l).str⟩, ?_⟩
    refine seq1 (C := C) Post.lk E1 p1 fun G2 H2 ρ2 y w s2 pl2 E2 od2 p2 => ?_
    exact fin2_ok (r := fun x y H Q => r x [y] H Q) hF (P := fun G r => Post C W Q Y G σ r) E2 (od1.mv pl1 s2) od2 p2 (fun q => q) (fun q => q)
  · exact p1.elim
abbrev rSplit : V → List V → Hp → VK → Prop := fun x xs H Q => ∃ a b, x = .str a ∧ xs = [.str b] ∧ (b.length == 0) = false ∧ a.length + 2 ≤ sizeLine ∧ rNewStrs (Txt.split a b) H Q
abbrev rJoin (K : PySem.W.Frag) : V → List V → Hp → VK → Prop := fun x xs H Q => ∃ a p, ∃ ys : List Str, x = .str a ∧ xs = [.ref p] ∧ (SqL K H p (ys.map V.str) ∨ SqT K H p (ys.map V.str)) ∧ (ys.map (·.length)).sum + ys.length * a.length ≤ 16777216 ∧ Q (.str (Txt.join a ys)) H
theorem splitD : OpD C splitF fun x y H Q => rSplit x [y] H Q := by
  intro Y G σ H ρ Q x y dx dy o E x1 x2 hf af
  unfold splitF at hf
  split at hf
  · split at hf
    · rename_i hz
      cases hf
      exact ⟨_, _, x1.str, by rw [x2.str], hz.1, by rw [sz_eq]; exact hz.2, fun q hq => Aft.lst E af hq (strs_den _)⟩
    · cases hf
  · cases hf
theorem joinD {K : PySem.W.Frag} (hK : C.b.K = K) : OpD C joinF fun x y H Q => rJoin K x [y] H Q := by
  intro Y G σ H ρ Q x y dx dy o E x1 x2 hf af
  have key : ∀ {a : Str} {ds : List D} {p : Addr} {vs : List V}, x = .str a → y = .ref p → (SqL K H p vs ∨ SqT K H p vs) → denL C.b G ds vs → joinS a ds = some o → rJoin K x [y] H Q := by
    intro a ds p vs hx hy hq dn hj
    unfold joinS at hj
    cases e : asStr ds with
    | none => rw [e] at hj; cases hj
    | some ys =>
      rw [e] at hj
      dsimp only at hj
      split at hj
      · rename_i hz
        cases hj
        rw [asStr_den e dn] at hq
        exact ⟨a, p, ys, hx, by rw [hy], hq, hz, af.str E⟩
      · cases hj
  unfold joinF at hf
  split at hf
  · obtain ⟨p, vs, e, h1, h2⟩ := x2.lst E.sub
    exact key x1.str e (.inl (SqL.of h1)) h2 hf
  · obtain ⟨p, vs, e, h1, h2⟩ := x2.tup hK E.sub
    exact key x1.str e (.inr h1) h2 hf
  · cases hf
theorem wSplit (B : Bd X C W k fr) {apos : Pos} (ho : PE X a (tE C W f)) (he : PE X e (tE C W g)) (hs : starEach [e] X.env = [(false, eval e X.env)] := by rfl) (hbase : attributeBase a "split" X.env (eval a X.env) = eval a X.env := by rfl) (hline : (apos.endLine == pos.line) = true := by rfl) :
    PE X (.Call (.Attribute a "split" apos) [e] [] pos) (tE C W (eM1 f g splitF)) := PE.st (pe_split ho he hs hbase hline) fun _ _ _ q => tM1_of splitD q
theorem wJoin (B : Bd X C W k fr) {apos : Pos} (ho : PE X a (tE C W f)) (he : PE X e (tE C W g)) (hs : starEach [e] X.env = [(false, eval e X.env)] := by rfl) (hbase : attributeBase a "join" X.env (eval a X.env) = eval a X.env := by rfl) (hline : (apos.endLine == pos.line) = true := by rfl) :
    PE X (.Call (.Attribute a "join" apos) [e] [] pos) (tE C W (eM1 f g joinF)) := PE.st (pe_join ho he hs hbase hline) fun _ _ _ q => tM1_of (joinD B.ct.k) q

/-! ### in, not in -/
def fltD : D → Bool
  | .non => true
  | .bl _ => true
  | .int _ => true
  | .str _ => true
  | _ => false
def eqFl : D → D → Bool
  | .str a, .str b => decide (a = b)
  | _, _ => false
def vFl : D → V
  | .bl b => .bl b
  | .int i => .int i
  | .str s => .str s
  | _ => .non
theorem den_fl {C : Cb} {G : Hp} {d : D} {v : V} (hf : fltD d = true) (h : den C G d v) : v = vFl d := by
  cases d with
  | non => unfold den at h; exact h
  | bl b => unfold den at h; exact h
  | int i => unfold den at h; exact h
  | str s => unfold den at h; exact h
  | _ => cases hf
theorem DV.fl {C : Cb} {G H : Hp} {d : D} {v : V} (hf : fltD d = true) (h : DV C G H d v) : v = vFl d := by
  rcases h with h | ⟨p, _, h⟩
  · exact den_fl hf h
  · cases d with
    | non => exact h.elim
    | bl b => exact h.elim
    | int i => exact h.elim
    | str s => exact h.elim
    | _ => cases hf
theorem denL_fl {C : Cb} {G : Hp} : ∀ {ds : List D} {vs : List V}, ds.all fltD = true → denL C G ds vs → vs = ds.map vFl
  | [], vs, _, h => by unfold denL at h; exact h
  | x :: xs, vs, hf, h => by
    unfold denL at h
    obtain ⟨v, r, rfl, h1, h2⟩ := h
    rw [List.all_cons, Bool.and_eq_true] at hf
    rw [den_fl hf.1 h1, denL_fl hf.2 h2]; rfl
theorem flat_vFl : ∀ {d : D}, fltD d = true → flatV (vFl d) = true := by
  intro d h
  cases d <;> first | rfl | cases h
theorem flats_vFl : ∀ {ds : List D}, ds.all fltD = true → (ds.map vFl).all flatV = true
  | [], _ => rfl
  | d :: ds, h => by
    rw [List.all_cons, Bool.and_eq_true] at h
    rw [List.map_cons, List.all_cons, flat_vFl h.1, flats_vFl h.2]; rfl
/-- x in xs: a sign in a text; a text among texts (list or tuple); a plain value in a list -/
def inB : D → D → Option Bool
  | .str a, .str z => match a.cps.toList with
    | [c] => some (decide (c ∈ z.cps.toList))
    | _ => none
  | .str a, .tup ds => match asStr ds with
    | some ys => some (ys.any fun y => decide (y = a))
    | none => none
  | d, .tup ds => if fltD d && ds.all fltD then some (inV (vFl d) (ds.map vFl)) else none
  | d, .lst ds => match toPy d, toPyL ds with
    | some p, some ps => if SeqAt.shaped p && SeqAt.shaped (.list ps) then some (ps.any fun z => PyData.eqv z p) else none
    | _, _ => none
  | _, _ => none
def inF (d e : D) : Option Opd := (inB d e).map fun b => .val (.bl b)
def notInF (d e : D) : Option Opd := (inB d e).map fun b => .val (.bl (!b))
abbrev rInAll (K : PySem.W.Frag) : R2 := fun x y H Q => (∃ (c : Nat) (z : Str), x = .str ⟨#[c]⟩ ∧ y = .str z ∧ Q (.bl (decide (c ∈ z.cps.toList))) H) ∨ (rIn K false x y H Q ∨ rInD K x y H Q)
abbrev rNotInAll (K : PySem.W.Frag) : R2 := fun x y H Q => (∃ (c : Nat) (z : Str), x = .str ⟨#[c]⟩ ∧ y = .str z ∧ Q (.bl (!decide (c ∈ z.cps.toList))) H) ∨ (rIn K true x y H Q ∨ rNotInD K x y H Q)
theorem op_inAll (hu : X.A.units + 65 < cLine) : OpR X (compareOp .In) (rInAll X.K) := OpR.or op_in_sign (OpR.or op_in_seq (op_inD hu))
theorem op_notInAll (hu : X.A.units + 65 < cLine) : OpR X (compareOp .NotIn) (rNotInAll X.K) := OpR.or op_notIn_sign (OpR.or op_notIn_seq (op_notInD hu))
theorem inV_strs (a : Str) : ∀ ys : List Str, inV (.str a) (ys.map V.str) = ys.any fun y => decide (y = a)
  | [] => rfl
  | y :: ys => by
    have := inV_strs a ys
    unfold inV at this ⊢
    rw [List.map_cons, List.any_cons, List.any_cons, this]
    rfl
theorem flat_strs : ∀ ys : List Str, (ys.map V.str).all flatV = true
  | [] => rfl
  | y :: ys => by rw [List.map_cons, List.all_cons, flat_strs ys]; rfl
theorem in_key {K : PySem.W.Frag} (hK : C.b.K = K) {G H : Hp} (s : Sub G H) {dx dy : D} {x y : V} {b : Bool} (x1 : DV C.b G H dx x) (x2 : DV C.b G H dy y) (h : inB dx dy = some b) :
    (∃ (c : Nat) (z : Str), x = .str ⟨#[c]⟩ ∧ y = .str z ∧ b = decide (c ∈ z.cps.toList)) ∨ (∃ p xs, y = .ref p ∧ (SqL K H p xs ∨ SqT K H p xs) ∧ flatV x = true ∧ xs.all flatV = true ∧ b = inV x xs) ∨
      ∃ d ds, Dp K H x d ∧ Dp K H y (.list ds) ∧ SeqAt.shaped d = true ∧ SeqAt.shaped (.list ds) = true ∧ b = ds.any fun z => PyData.eqv z d := by
  unfold inB at h
  split at h
  · split at h
    · rename_i a z _ c hc
      cases h
      refine .inl ⟨c, z, ?_, x2.str, rfl⟩
      rw [x1.str]
      congr 1
      obtain ⟨⟨l⟩⟩ := a
      have : l = [c] := hc
      rw [this]
    · cases h
  · split at h
    · rename_i ys e
      cases h
      obtain ⟨p, vs, rfl, h1, h2⟩ := x2.tup hK s
      rw [asStr_den e h2] at h1
      rw [x1.str]
      exact .inr (.inl ⟨p, _, rfl, .inr h1, rfl, flat_strs _, (inV_strs _ _).symm⟩)
    · cases h
  · split at h
    · rename_i hf
      cases h
      obtain ⟨f1, f2⟩ := Bool.and_eq_true_iff.mp hf
      obtain ⟨p, vs, rfl, h1, h2⟩ := x2.tup hK s
      rw [denL_fl f2 h2] at h1
      rw [DV.fl f1 x1]
      exact .inr (.inl ⟨p, _, rfl, .inr h1, flat_vFl f1, flats_vFl f2, rfl⟩)
    · cases h
  · split at h
    · rename_i p ps e1 e2
      split at h
      · rename_i hs
        cases h
        obtain ⟨s1, s2⟩ := Bool.and_eq_true_iff.mp hs
        refine .inr (.inr ⟨p, ps, dv_dp hK s x1 e1 (noDict_shaped s1), dv_dp hK s x2 (by unfold toPy; rw [e2]; rfl) (noDict_shaped s2), s1, s2, rfl⟩)
      · cases h
    · cases h
  · cases h
theorem inDD {K : PySem.W.Frag} (hK : C.b.K = K) : OpD C inF (rInAll K) := by
  intro Y G σ H ρ Q x y dx dy o E x1 x2 hf af
  unfold inF at hf
  cases hb : inB dx dy with
  | none => rw [hb] at hf; cases hf
  | some b =>
    rw [hb] at hf
    cases hf
    rcases in_key hK E.sub x1 x2 hb with ⟨c, z, h1, h2, rfl⟩ | ⟨p, xs, h1, h2, h3, h4, rfl⟩ | ⟨d, ds, h1, h2, h3, h4, rfl⟩
    · exact .inl ⟨c, z, h1, h2, af.bl E⟩
    · exact .inr (.inl ⟨p, xs, h1, h2, h3, h4, af.bl E⟩)
    · exact .inr (.inr ⟨d, ds, h1, h2, h3, h4, af.bl E⟩)
theorem notInDD {K : PySem.W.Frag} (hK : C.b.K = K) : OpD C notInF (rNotInAll K) := by
  intro Y G σ H ρ Q x y dx dy o E x1 x2 hf af
  unfold notInF at hf
  cases hb : inB dx dy with
  | none => rw [hb] at hf; cases hf
  | some b =>
    rw [hb] at hf
    cases hf
    rcases in_key hK E.sub x1 x2 hb with ⟨c, z, h1, h2, rfl⟩ | ⟨p, xs, h1, h2, h3, h4, rfl⟩ | ⟨d, ds, h1, h2, h3, h4, rfl⟩
    · exact .inl ⟨c, z, h1, h2, af.bl E⟩
    · exact .inr (.inl ⟨p, xs, h1, h2, h3, h4, af.bl E⟩)
    · exact .inr (.inr ⟨d, ds, h1, h2, h3, h4, af.bl E⟩)
theorem Room.u65 {k : Nat} {A : Around} (r : Room k A) : A.units + 65 < cLine := by have := r.un; omega
theorem wIn (B : Bd X C W k fr) (ha : PE X a (tE C W f)) (hb : PE X b (tE C W g)) (hm : behindInMarks .In b = false := by with_unfolding_all rfl) : PE X (.Compare a [.In] [b] pos) (tE C W (e2 f g inF)) := pe_cmp2 (op_inAll (Room.u65 B.rm)) (inDD B.ct.k) ha hb hm
theorem wNotIn (B : Bd X C W k fr) (ha : PE X a (tE C W f)) (hb : PE X b (tE C W g)) (hm : behindInMarks .NotIn b = false := by with_unfolding_all rfl) : PE X (.Compare a [.NotIn] [b] pos) (tE C W (e2 f g notInF)) := pe_cmp2 (op_notInAll (Room.u65 B.rm)) (notInDD B.ct.k) ha hb hm
theorem xIn (B : Bd X C W k fr) (ha : PE X a (tE C W f)) (hb : PE X b (tE C W g)) (hm : behindInMarks .In b = false := by with_unfolding_all rfl) : PT X (.Compare a [.In] [b] pos) (tT C W (tV (e2 f g inF))) := pt_cmp2 (op_inAll (Room.u65 B.rm)) (inDD B.ct.k) ha hb hm
theorem xNotIn (B : Bd X C W k fr) (ha : PE X a (tE C W f)) (hb : PE X b (tE C W g)) (hm : behindInMarks .NotIn b = false := by with_unfolding_all rfl) : PT X (.Compare a [.NotIn] [b] pos) (tT C W (tV (e2 f g notInF))) := pt_cmp2 (op_notInAll (Room.u65 B.rm)) (notInDD B.ct.k) ha hb hm

/-! ### int of a text -/
def intSF : List D → Option Opd
  | [.str a] => match PySem.intText? a with
    | some n => if a.length ≤ 640 then some (.val (.int n)) else none
    | none => none
  | ds => intF ds
theorem intSD : CallD C intSF (fun xs H Q => (∃ a n, xs = [.str a] ∧ PySem.intText? a = some n ∧ a.length ≤ 640 ∧ Q (.int n) H) ∨ ((∃ i, xs = [.int i] ∧ Q (.int i) H) ∨ ∃ k, xs = [.bl k] ∧ Q (.int (if k then 1 else 0)) H)) := by
  intro Y G σ H ρ Q xs ds o E p hf af
  unfold intSF at hf
  split at hf
  · split at hf
    · rename_i n hn
      split at hf
      · rename_i hz
        cases hf
        obtain ⟨v, rfl, h⟩ := pd1 p
        exact .inl ⟨_, n, by rw [h.str], hn, hz, af.int E⟩
      · cases hf
    · cases hf
  · exact .inr (intD E p hf af)
theorem CallR.or' {v : Value} {r r' : List V → Hp → VK → Prop} (h : CallR X v r) (h' : CallR X v r') : CallR X v fun xs H Q => r xs H Q ∨ r' xs H Q := fun pins s σ H xs us Q I rv q => q.elim (h pins s σ H xs us Q I rv) (h' pins s σ H xs us Q I rv)
theorem wIntS (B : Bd X C W k fr) (ha : PA X (e :: es) (tA C W (eA fs))) (hx : ("int" : Str) ∈ fr := by decide) (hg : Gl X "int" := by rfl) (he : starEach (e :: es) X.env = (false, eval e X.env) :: starEach es X.env := by rfl) (hpl : (backTo pos (starEach es X.env)).any (·.1) = false := by rfl) :
    PE X (.Call (.Name "int" p) (e :: es) [] pos) (tE C W (eB fs intSF)) := de_callTy (CallR.or' call_int_str call_int1) intSD hg (B.free _ hx) bo_int ha (by decide) (by decide) he hpl

/-! ### zip of two lists, or of two tuples -/
def zipD (xs ys : List D) : List D := (xs.zip ys).map fun z => .tup [z.1, z.2]
def iZp (fs : List (M Opd)) : M (List D) := fun ρ => (eA fs ρ).bind fun os ρ1 => match takeAll os ρ1 with
  | some ([.lst xs, .lst ys], ρ2) => .ok (zipD xs ys) ρ2
  | some ([.tup xs, .tup ys], ρ2) => .ok (zipD xs ys) ρ2
  | _ => .bad
theorem zip_get {xs ys : List D} {i : Nat} (hi : i < (zipD xs ys).length) : ∃ x y, xs[i]? = some x ∧ ys[i]? = some y ∧ (zipD xs ys)[i]? = some (.tup [x, y]) := by
  have hl : i < xs.length ∧ i < ys.length := by unfold zipD at hi; rw [List.length_map, List.length_zip] at hi; omega
  refine ⟨xs[i], ys[i], List.getElem?_eq_getElem hl.1, List.getElem?_eq_getElem hl.2, ?_⟩
  unfold zipD
  have e : (xs.zip ys)[i]? = some (xs[i], ys[i]) := List.getElem?_zip_eq_some.mpr ⟨List.getElem?_eq_getElem hl.1, List.getElem?_eq_getElem hl.2⟩
  rw [List.getElem?_map, e]
  rfl
theorem di_zip {elts : List Expr} {kk : Nat} {tpos : Pos} {e2 : Expr} (hK : C.b.K = X.K) (hg : Gl X "zip") (hm : X.mg "zip" = none) (ha : PA X [e, e2] (tA C W (eA [f, g])))
    (hs : starEach [e, e2] X.env = (false, eval e X.env) :: starEach [e2] X.env := by rfl) (hpl : (backTo pos (starEach [e2] X.env)).any (·.1) = false := by rfl) :
    PI X (.Tuple elts kk tpos) (.Call (.Name "zip" p) [e, e2] [] pos) (tI C W (iZp [f, g])) := PI.st (RZ.pi_zipA hg hm ha hs hpl) fun σ H S q => by
  obtain ⟨Y, G, ρ, E, p⟩ := q
  refine seqAp (C := C) PostI.lk E p fun G1 H1 ρ1 os vs s1 pl E1 ods p1 => ?_
  have pair : ∀ {G1 H H' : Hp} {Y : Gr} {σ : St} {ρ : DEnv} {T : Addr} {x y : V} {dx dy : D}, ED C Y G1 σ H ρ → H T = none → H' = upd H T (.tup [x, y]) → den C.b G1 dx x → den C.b G1 dy y → ∃ G2, Sub G1 G2 ∧ ED C Y G2 σ H' ρ ∧ den C.b G2 (.tup [dx, dy]) (.ref T) := by
    intro G1 H H' Y σ ρ T x y dx dy E hT hH h1 h2
    subst hH
    have sg : Sub G1 (upd G1 T (.tup [x, y])) := Sub.new (E.gn hT)
    refine ⟨_, sg, E.froze hT, ?_⟩
    unfold den
    refine ⟨T, [x, y], rfl, SqT.of upd_same, ?_⟩
    unfold denL
    refine ⟨x, [y], rfl, den.mono sg _ _ h1, ?_⟩
    unfold denL
    refine ⟨y, [], rfl, den.mono sg _ _ h2, ?_⟩
    unfold denL; rfl
  cases e1 : takeAll os ρ1 with
  | none => rw [e1] at p1; exact p1.elim
  | some z =>
    obtain ⟨ds, ρ2⟩ := z
    rw [e1] at p1
    obtain ⟨G2, s2, E2, dn⟩ := takeAll_ok E1 pl ods e1
    split at p1
    · rename_i xs ys _ he
      cases he
      unfold denL at dn
      obtain ⟨v1, r1, rfl, d1, dn⟩ := dn
      unfold denL at dn
      obtain ⟨v2, r2, rfl, d2, dn⟩ := dn
      unfold denL at dn
      subst dn
      unfold den at d1 d2
      obtain ⟨a, us, rfl, a1, a2⟩ := d1
      obtain ⟨b, ws, rfl, b1, b2⟩ := d2
      have sq1 : ∀ H, Sub G2 H → SqL X.K H a us := fun H s => SqL.of (s _ _ a1)
      have sq2 : ∀ H, Sub G2 H → SqL X.K H b ws := fun H s => SqL.of (s _ _ b1)
      have q1 := denL_iff.mp a2
      have q2 := denL_iff.mp b2
      refine ⟨a, b, us, ws, rfl, .inl ⟨sq1 _ E2.sub, sq2 _ E2.sub, p1 G2 H1 _ s2 E2 ⟨fun i H s hi => ?_, fun i x H H' s hi hy => ?_, fun i H s hi => ?_⟩⟩⟩
      · obtain ⟨x, y, h1, h2, _⟩ := zip_get hi
        obtain ⟨u, hu, _⟩ := pd_get q1 h1
        obtain ⟨w', hw, _⟩ := pd_get q2 h2
        exact ⟨us, ws, u, w', sq1 _ s, sq2 _ s, hu, hw⟩
      · obtain ⟨T, u, w', rfl, hT, hH, g1, g2⟩ := hy
        obtain ⟨x, y, h1, h2, h3⟩ := zip_get hi
        obtain ⟨u', hu, du⟩ := pd_get q1 h1
        obtain ⟨w'', hw, dw⟩ := pd_get q2 h2
        have e1 := g1 us (sq1 _ s)
        have e2 := g2 ws (sq2 _ s)
        rw [hu] at e1; cases e1
        rw [hw] at e2; cases e2
        exact ⟨_, h3, fun Y' σ' ρ' G3 s3 E3 => pair E3 hT hH (den.mono s3 _ _ du) (den.mono s3 _ _ dw)⟩
      · have l1 := q1.length
        have l2 := q2.length
        have : xs.length ≤ i ∨ ys.length ≤ i := by unfold zipD at hi; rw [List.length_map, List.length_zip] at hi; omega
        exact ⟨us, ws, sq1 _ s, sq2 _ s, by omega⟩
    · rename_i xs ys _ he
      cases he
      unfold denL at dn
      obtain ⟨v1, r1, rfl, d1, dn⟩ := dn
      unfold denL at dn
      obtain ⟨v2, r2, rfl, d2, dn⟩ := dn
      unfold denL at dn
      subst dn
      unfold den at d1 d2
      obtain ⟨a, us, rfl, a1, a2⟩ := d1
      obtain ⟨b, ws, rfl, b1, b2⟩ := d2
      have sq1 : ∀ H, Sub G2 H → SqT X.K H a us := fun H s => by rw [← hK]; exact s.sqT a1
      have sq2 : ∀ H, Sub G2 H → SqT X.K H b ws := fun H s => by rw [← hK]; exact s.sqT b1
      have q1 := denL_iff.mp a2
      have q2 := denL_iff.mp b2
      refine ⟨a, b, us, ws, rfl, .inr ⟨sq1 _ E2.sub, sq2 _ E2.sub, p1 G2 H1 _ s2 E2 ⟨fun i H s hi => ?_, fun i x H H' s hi hy => ?_, fun i H s hi => ?_⟩⟩⟩
      · obtain ⟨x, y, h1, h2, _⟩ := zip_get hi
        obtain ⟨u, hu, _⟩ := pd_get q1 h1
        obtain ⟨w', hw, _⟩ := pd_get q2 h2
        exact ⟨us, ws, u, w', sq1 _ s, sq2 _ s, hu, hw⟩
      · obtain ⟨T, u, w', rfl, hT, hH, g1, g2⟩ := hy
        obtain ⟨x, y, h1, h2, h3⟩ := zip_get hi
        obtain ⟨u', hu, du⟩ := pd_get q1 h1
        obtain ⟨w'', hw, dw⟩ := pd_get q2 h2
        have e1 := g1 us (sq1 _ s)
        have e2 := g2 ws (sq2 _ s)
        rw [hu] at e1; cases e1
        rw [hw] at e2; cases e2
        exact ⟨_, h3, fun Y' σ' ρ' G3 s3 E3 => pair E3 hT hH (den.mono s3 _ _ du) (den.mono s3 _ _ dw)⟩
      · have l1 := q1.length
        have l2 := q2.length
        have : xs.length ≤ i ∨ ys.length ≤ i := by unfold zipD at hi; rw [List.length_map, List.length_zip] at hi; omega
        exact ⟨us, ws, sq1 _ s, sq2 _ s, by omega⟩
    · exact p1.elim
end
end DL

set_option Elab.async false
set_option linter.all false
set_option maxRecDepth 100000
set_option maxHeartbeats 1000000
/-! The data layer: enumerate from a start. -/
namespace DL
open PySem PySem.Spec L2
open PyProof.Rows hiding St

/-- the items of the list at a, each in a new pair with its count -/
def IteC (K : PySem.W.Frag) (a : Addr) (k : Int) : It :=
  ⟨fun i H => ∃ (xs : List V) (x : V), SqL K H a xs ∧ xs[i]? = some x, fun i H v H' => ∃ T x, v = .ref T ∧ H T = none ∧ H' = upd H T (.tup [.int (k + (i : Nat)), x]) ∧ ∀ xs, SqL K H a xs → xs[i]? = some x,
    fun i H => ∃ xs : List V, SqL K H a xs ∧ xs.length ≤ i⟩
theorem turn_enumC {P : Program} {w : World} {K : PySem.W.Frag} {elts : List Expr} {kk : Nat} {tpos : Pos} (a e it : Addr) (k : Int) :
    Turn P w K (.Tuple elts kk tpos) (IteC K a k) [e, it] e (fun i h => (∃ old, IsEnum h e it (k + ((i : Nat) : Int)) old) ∧ h.IsListIter it a i ∧ e ≠ it ∧ e ≠ a ∧ a ≠ it) := by
  constructor
  case mem => exact List.mem_cons_self
  case obj =>
    rintro i h ⟨⟨old, he⟩, ⟨o, ho, hc, hd⟩, _⟩ b hb
    rcases List.mem_cons.mp hb with rfl | hb
    · exact ⟨_, he, fun v q => nomatch q⟩
    · cases List.mem_singleton.mp hb
      exact ⟨o, ho, fun v q => by rw [hd] at q; cases q⟩
  case keep =>
    rintro i h h' ⟨⟨old, he⟩, hi, hn⟩ kp
    exact ⟨⟨old, kp e List.mem_cons_self _ he⟩, hi.at fun o q => kp it (List.mem_cons_of_mem _ List.mem_cons_self) o q, hn⟩
  case self =>
    rintro A i s Q E ⟨⟨old, he⟩, _⟩ h
    exact wpAny_pyIter_enum he h
  case done =>
    intro X hP hw hK hc i pins s σ H E I hf st hg
    subst hP hw hK
    obtain ⟨⟨old, he⟩, hit, hne, hea, hai⟩ := st
    obtain ⟨xs, hq, hx⟩ := hg
    obtain ⟨its, rv, p, hz⟩ := I.list hq
    obtain ⟨f0, f1, f2, f3, f4, f5⟩ := hf it (List.mem_cons_of_mem _ List.mem_cons_self)
    have hl := rv.length
    have Dr : Draws X.prog X.w X.A.in1 it [it, a] i (fun _ _ => True) (fun j h => h.IsListIter it a j ∧ h.IsList a its.toArray ∧ j = i) :=
      ⟨fun _ _ st => let ⟨o, ho, _⟩ := st.1; ⟨o, ho⟩, fun _ _ _ st kp => ⟨st.1.at fun o e => kp it (by simp) o e, st.2.1.at fun o e => kp a (by simp) o e, st.2.2⟩, fun j s Q E hj st => absurd st.2.2 (Nat.ne_of_lt hj),
        fun s Q E st hE => wpAny_nextOf_list_end (I.ok.hd hc) st.1 st.2.1 (by simp; omega) hE⟩
    exact wpAny_pyNext_enum_endD Dr he ⟨hit, p.isList, rfl⟩ fun h' eb => ⟨rfl, I.turned (t' := s.toks) (fun b o hb q => eb b o hb q) f0 f1 f3 f4 f5⟩
  case item =>
    intro X hP hw hK hc i pins s σ H E I hf st hg
    subst hP hw hK
    obtain ⟨⟨old, he⟩, hit, hne, hea, hai⟩ := st
    obtain ⟨xs, x, hq, hx⟩ := hg
    obtain ⟨its, rv, p, hz⟩ := I.list hq
    obtain ⟨u, hu, ru⟩ := rv.get hx
    have le : e < s.heap.objs.size := Heap.lt_size he
    have li : it < s.heap.objs.size := by obtain ⟨_, q, _⟩ := hit; exact Heap.lt_size q
    have Dr := Draws.list (prog := X.prog) (w := X.w) (A := X.A.in1) (I.ok.hd hc) it a hai its.toArray
    have hlt : i < its.toArray.size := by
      rw [List.size_toArray, ← rv.length]
      exact (List.getElem?_eq_some_iff.mp hx).1
    refine wpAny_pyNext_enum_itemC Dr he ⟨hit, p.isList⟩ hlt hne (by simp [hne, hea]) fun x' h' tk hx' ho hst' hT hsz hk => ?_
    obtain rfl : x' = u := by
      have q : its[i]? = some x' := by simpa using hx'
      rw [hu] at q; exact (Option.some.inj q).symm
    obtain ⟨hit', _⟩ := hst'
    refine ⟨_, rfl, wpAny_letOwnedTupleGo_enum (s := { s with heap := h', toks := tk + 1 }) ho fun h'' he' sb => ?_⟩
    have hT2 : h''.get? s.heap.objs.size = some { cls := .type "tuple", data := .seq #[.int (k + (i : Nat)) tk, x'] } := (sb.2 _ (Nat.ne_of_gt le)).trans hT
    have new : ObjOk X.prog X.w (upd H s.heap.objs.size (.tup [.int (k + (i : Nat)), x])) h'' s.heap.objs.size (.tup [.int (k + (i : Nat)), x]) :=
      ⟨(by rw [sz_eq]; decide : 2 ≤ sizeLine), [.int (k + (i : Nat)) tk, x'], .cons ⟨_, rfl⟩ (.cons ru .nil), ⟨_, hT2, rfl, _, rfl⟩⟩
    have nb : ∀ b, b ∉ [e, it] → b ≠ e ∧ b ≠ it := fun b hb => ⟨fun z => hb (by simp [z]), fun z => hb (by simp [z])⟩
    have I1 : Inv X pins σ (upd H s.heap.objs.size (.tup [.int (k + (i : Nat)), x])) { s with heap := h'', toks := tk + 1 } :=
      I.turnedNew (ch := [e, it]) (fun b ob hb q => (sb.2 b (nb b hb).1).trans (hk b ob (nb b hb).1 (nb b hb).2 q)) hf (Nat.le_refl _) new
    refine ⟨.ref s.heap.objs.size, _, I1, rfl, ⟨_, x, rfl, I.hok.fresh (Nat.le_refl _), rfl, fun ys hy => by rw [I.list_inj hy hq]; exact hx⟩, ⟨⟨x', ?_⟩, hit'.at fun o q => (sb.2 it (Ne.symm hne)).trans q, hne, hea, hai⟩, fun b hb => ?_⟩
    · have e1 : k + ((i + 1 : Nat) : Int) = k + (i : Int) + 1 := by omega
      rw [e1]; exact he'
    · have hb' : b < s.heap.objs.size := by
        rcases List.mem_cons.mp hb with rfl | hb
        · exact le
        · cases List.mem_singleton.mp hb; exact li
      rw [upd_ne (Nat.ne_of_lt hb')]
      exact (hf b hb).1
def iEnumC (K : PySem.W.Frag) (ta : TA) : TI := fun σ H R => ta σ H fun vs H1 => ∃ a xs k, vs = [.ref a, .int k] ∧ SqL K H1 a xs ∧ -(2 ^ 63) ≤ k ∧ k < 2 ^ 63 ∧ R (IteC K a k) H1
section
variable {X : Cx} {C : Cn} {W : WX} {e e2 : Expr} {f g : M Opd} {p pos tpos : Pos} {elts : List Expr} {kk : Nat}
theorem pi_enumC {ta : TA} (hg : Gl X "enumerate") (hm : X.mg "enumerate" = none) (ha : PA X [e, e2] ta) (hs : starEach [e, e2] X.env = (false, eval e X.env) :: starEach [e2] X.env := by rfl) (hpl : (backTo pos (starEach [e2] X.env)).any (·.1) = false := by rfl) :
    PI X (.Tuple elts kk tpos) (.Call (.Name "enumerate" p) [e, e2] [] pos) (iEnumC X.K ta) := ⟨fun pins s σ H R I h => by
  refine Call_ (ld_blt I hg hm boot_enumerate (PyProof.Rows.callWith_type1 (thn (ha.run pos pins s σ H _ I h) fun us s1 ⟨vs, H1, I1, r1, a, xs, k, ex, hq, k0, k1, q⟩ => ?_) hs hpl))
  subst ex
  obtain ⟨u1, u2, rfl, ra, t, rfl⟩ := r1.two
  cases ra
  obtain ⟨its, rv, p', hz⟩ := I1.list hq
  have la : a < s1.heap.objs.size := p'.lt
  refine enum_begins (begins_list a its.toArray) p'.isList k0 k1 fun h' he hit hsz hk => wpAny_pyIter_enum he ?_
  have I2 : Inv X pins σ H1 { s1 with heap := h' } := I1.kept (t' := s1.toks) hk
  refine ⟨s1.heap.objs.size + 1, [s1.heap.objs.size + 1, s1.heap.objs.size], _, _, H1, rfl, I2, turn_enumC a (s1.heap.objs.size + 1) s1.heap.objs.size k, ⟨⟨.none, by rw [show k + ((0 : Nat) : Int) = k by omega]; exact he⟩, ⟨_, hit, rfl, rfl⟩, Nat.succ_ne_self _, Nat.ne_of_gt (Nat.lt_succ_of_lt la), Nat.ne_of_lt la⟩, fun b hb => ?_, q⟩
  have hle : s1.heap.objs.size ≤ b := by
    rcases List.mem_cons.mp hb with rfl | hb
    · omega
    · cases List.mem_singleton.mp hb; omega
  exact I1.fpOk hle (I1.hok.fresh hle)⟩
def iEnK (f g : M Opd) : M (List D) := fun ρ => (eA [f, g] ρ).bind fun os ρ1 => match takeAll os ρ1 with
  | some ([d, .int k], ρ2) => match lstK d with
    | some ds => if -(2 ^ 60) ≤ k ∧ k < 2 ^ 60 then .ok (enumD k ds) ρ2 else .bad
    | none => .bad
  | _ => .bad
theorem di_enumC (hK : C.b.K = X.K) (hg : Gl X "enumerate") (hm : X.mg "enumerate" = none) (ha : PA X [e, e2] (tA C W (eA [f, g]))) (hs : starEach [e, e2] X.env = (false, eval e X.env) :: starEach [e2] X.env := by rfl) (hpl : (backTo pos (starEach [e2] X.env)).any (·.1) = false := by rfl) :
    PI X (.Tuple elts kk tpos) (.Call (.Name "enumerate" p) [e, e2] [] pos) (tI C W (iEnK f g)) := PI.st (pi_enumC hg hm ha hs hpl) fun σ H S h => by
  obtain ⟨Y, G, ρ, E, q⟩ := h
  refine seqAp (C := C) PostI.lk E q fun G1 H1 ρ1 os vs s1 pl E1 ods p1 => ?_
  split at p1
  · rename_i d k ρ2 t
    obtain ⟨G2, s2, E2, dn⟩ := takeAll_ok E1 pl ods t
    unfold denL at dn
    obtain ⟨v1, r1, rfl, d1, dn⟩ := dn
    unfold denL at dn
    obtain ⟨v2, r2, rfl, d2, dn⟩ := dn
    unfold denL at dn
    subst dn
    unfold den at d2
    subst d2
    cases hk : lstK d with
    | none => rw [hk] at p1; exact p1.elim
    | some ds =>
      rw [hk] at p1
      dsimp only at p1
      by_cases hb : -(2 ^ 60) ≤ k ∧ k < 2 ^ 60
      · rw [if_pos hb] at p1
        obtain ⟨a, us, rfl, sq, pd⟩ := lst_key hK hk d1
        have e60 : (2 : Int) ^ 60 = 1152921504606846976 := by rfl
        have e63 : (2 : Int) ^ 63 = 9223372036854775808 := by rfl
        have hl : (enumD k ds).length = ds.length := by unfold enumD; rw [List.length_map, List.length_zipIdx]
        refine ⟨a, us, k, rfl, sq _ E2.sub, by rw [e63]; rw [e60] at hb; omega, by rw [e63]; rw [e60] at hb; omega, p1 G2 H1 _ s2 E2 ⟨fun i H s hi => ?_, fun i x H H' s hi hy => ?_, fun i H s hi => ?_⟩⟩
        · rw [hl] at hi
          obtain ⟨u, hu, _⟩ := pd_get pd (List.getElem?_eq_getElem hi)
          exact ⟨us, u, sq _ s, hu⟩
        · rw [hl] at hi
          obtain ⟨T, u, rfl, hT, rfl, g1⟩ := hy
          obtain ⟨u', hu, du⟩ := pd_get pd (List.getElem?_eq_getElem hi)
          have e1 := g1 us (sq _ s)
          rw [hu] at e1; cases e1
          refine ⟨.tup [.int (k + (i : Nat)), ds[i]], ?_, fun Y' σ' ρ' G3 s3 E3 => ?_⟩
          · unfold enumD
            rw [List.getElem?_map, List.getElem?_zipIdx, List.getElem?_eq_getElem hi]
            simp
          · have sg := Sub.new (o := .tup [.int (k + (i : Nat)), u]) (E3.gn hT)
            refine ⟨_, sg, E3.froze hT, ?_⟩
            unfold den
            refine ⟨T, [.int (k + (i : Nat)), u], rfl, SqT.of upd_same, ?_⟩
            unfold denL
            refine ⟨_, [u], rfl, by unfold den; rfl, ?_⟩
            unfold denL
            refine ⟨u, [], rfl, den.mono (s3.trans sg) _ _ du, ?_⟩
            unfold denL; rfl
        · rw [hl] at hi
          exact ⟨us, sq _ s, by rw [← pd.length]; exact hi⟩
      · rw [if_neg hb] at p1; exact p1.elim
  · exact p1.elim
end
end DL

set_option Elab.async false
set_option linter.all false
set_option maxRecDepth 100000
set_option maxHeartbeats 1000000
/-! The data layer: a, b = e, f; an owned value held while another is reckoned; constants of the module. -/
namespace DL
open PySem PySem.Spec L2
open PyProof.Rows hiding St

/-! ### a fresh owned thing is held -/
section
variable {C : Cn} {Y : Gr} {G : Hp} {σ : St} {H : Hp} {ρ : DEnv} {p : Addr} {o : HO} {d : D}
/-- it stands off the frame's ground -/
theorem ED.offO (E : ED C Y G σ H ρ) (gn : G p = none) (h0 : Y.H0 p = none) (nr : ∀ (i : Nat) (e : D), ρ[i]? = some (some (true, e)) → σ[i]? ≠ some (some (.ref p))) (nt : p ∉ Y.T.map (·.1)) : Off Y p := by
  refine ⟨h0, ?_, fun i hb => ?_, nt⟩
  · cases e : Y.G0 p with
    | none => rfl
    | some u => have := E.g0 _ _ e; rw [gn] at this; cases this
  · obtain ⟨h1, hn, b, d, h2, hc, h3⟩ := E.bor i p hb
    rcases h3 with rfl | ⟨u, h3⟩
    · exact nr i d h2 h1
    · rw [gn] at h3; cases h3
theorem ED.hold (E : ED C Y G σ H ρ) (gn : G p = none) (hp : H p = some o) (nr : ∀ (i : Nat) (e : D), ρ[i]? = some (some (true, e)) → σ[i]? ≠ some (some (.ref p))) : ED C (Y.prot p o) G σ H ρ := by
  refine ⟨E.sub, E.frz, fun i d e => ?_, E.ap, E.len, E.bor, fun a u e hb ht => ?_, fun a u e => ?_, E.g0, E.tb, E.gt⟩
  · obtain ⟨q, q1, q2, q3, q4⟩ := E.own i d e
    have hq : q ≠ p := fun z => nr i d e (z ▸ q1)
    exact ⟨q, q1, q2, q3, q4.imp (fun z => by show upd Y.H0 p o q = none; rw [upd_ne hq]; exact z) id⟩
  · have e' : upd Y.H0 p o a = some u := e
    by_cases ha : a = p
    · subst ha; rw [upd_same] at e'; cases e'; exact hp
    · rw [upd_ne ha] at e'; exact E.old a u e' hb ht
  · have ha : a ≠ p := fun z => by rw [z, gn] at e; cases e
    rcases E.fz a u e with x | x | x
    · exact .inl (by show upd Y.H0 p o a = none; rw [upd_ne ha]; exact x)
    · exact .inr (.inl x)
    · exact .inr (.inr x)
/-- what came meanwhile is let go to the frame's own ground -/
theorem OD.unhold (E : ED C (Y.prot p o) G σ H ρ) (f : Off Y p) {x : Opd} {v : V} (h : OD C (Y.prot p o) G σ H ρ x v) : OD C Y G σ H ρ x v ∧ ∀ d, x = .own d → v ≠ .ref p := by
  cases x with
  | val d => exact ⟨h, fun _ e => nomatch e⟩
  | slot i => exact ⟨h, fun _ e => nomatch e⟩
  | own d =>
    obtain ⟨q, rfl, h1, h2, h3, h4⟩ := h
    have h3' : upd Y.H0 p o q = none := h3
    have hq : q ≠ p := fun z => by rw [z, upd_same] at h3'; cases h3'
    rw [upd_ne hq] at h3'
    exact ⟨⟨q, rfl, h1, h2, h3', h4⟩, fun _ _ z => hq (by cases z; rfl)⟩
end

/-! ### a, b = e, f -/
/-- an operand as it is stored: nothing that is owned elsewhere -/
def rsvP (o : Opd) (ρ : DEnv) : Option Opd := match o with
  | .slot i => match ρ[i]? with
    | some (some (false, d)) => some (.val d)
    | _ => none
  | o => some o
def sPar (np i j : Nat) (f g : M Opd) : M Fl := fun ρ => (f ρ).bind fun o1 ρ1 => (g ρ1).bind fun o2 ρ2 => match rsvP o1 ρ2, rsvP o2 ρ2 with
  | some x1, some x2 => match asg np i x1 ρ2 with
    | some ρ3 => match asg np j x2 ρ3 with
      | some ρ4 => .ok .nx ρ4
      | none => .bad
    | none => .bad
  | _, _ => .bad
section
variable {X : Cx} {C : Cn} {W : WX} {a b e : Expr} {f g : M Opd} {k : Nat} {fr : List Str} {pos : Pos}
theorem rsvP_ok {Y : Gr} {G : Hp} {σ : St} {H : Hp} {ρ : DEnv} {o x : Opd} {v : V} (E : ED C Y G σ H ρ) (od : OD C Y G σ H ρ o v) (h : rsvP o ρ = some x) : OD C Y G σ H ρ x v ∧ (∀ d, x = .own d → o = .own d) := by
  cases o with
  | val d => cases h; exact ⟨od, fun _ e => e⟩
  | own d => cases h; exact ⟨od, fun _ e => e⟩
  | slot i =>
    unfold rsvP at h
    dsimp only at h
    split at h
    · rename_i d hr
      cases h
      obtain ⟨w, w1, w2⟩ := E.frz i d hr
      have : σ[i]? = some (some v) := od
      rw [this] at w1; cases w1
      exact ⟨w2, fun _ e => nomatch e⟩
    · cases h
/-- an operand behind a store of another one -/
theorem OD.stored {Y : Gr} {G : Hp} {σ : St} {H : Hp} {ρ ρ' : DEnv} {o1 o2 : Opd} {v w : V} {i : Nat} (h : asg C.np i o1 ρ = some ρ') (od : OD C Y G σ H ρ o2 w) (pl : ∀ m, o2 ≠ .slot m) (hne : ∀ d d', o1 = .own d → o2 = .own d' → v ≠ w) : OD C Y G (σ.set i (some v)) H ρ' o2 w := by
  cases o2 with
  | val d => exact od
  | slot m => exact (pl m rfl).elim
  | own d =>
    obtain ⟨q, rfl, gn, oa, h0, nr⟩ := od
    refine ⟨q, rfl, gn, oa, h0, fun m e hm hs => ?_⟩
    cases o1 with
    | slot _ => cases h
    | val d1 =>
      unfold asg at h
      dsimp only at h
      split at h
      · cases h
        rcases set_get hm with ⟨_, z⟩ | ⟨hj, z⟩
        · cases z
        · rw [setσ, if_neg hj] at hs
          exact nr m e z hs
      · cases h
    | own d1 =>
      unfold asg at h
      dsimp only at h
      split at h
      · cases h
        rcases set_get hm with ⟨rfl, z⟩ | ⟨hj, z⟩
        · rw [setσ, if_pos rfl] at hs
          split at hs
          · exact hne d1 d rfl rfl (Option.some.inj (Option.some.inj hs))
          · cases hs
        · rw [setσ, if_neg hj] at hs
          exact nr m e z hs
      · cases h
theorem rsvP_pl {o x : Opd} {ρ : DEnv} (h : rsvP o ρ = some x) : ∀ m, x ≠ .slot m := by
  intro m e
  subst e
  cases o with
  | val d => cases h
  | own d => cases h
  | slot i =>
    unfold rsvP at h
    dsimp only at h
    split at h
    · cases h
    · cases h
theorem par_end {Y : Gr} {G : Hp} {σ : St} {H : Hp} {ρ : DEnv} {N : Ends} {o1 o2 : Opd} {v w : V} {i j : Nat} (E : ED C Y G σ H ρ) (od1 : OD C Y G σ H ρ o1 v) (od2 : OD C Y G σ H ρ o2 w) (hne : ∀ d d', o1 = .own d → o2 = .own d' → v ≠ w)
    (p : PostS C W N Y G (match rsvP o1 ρ, rsvP o2 ρ with
      | some x1, some x2 => match asg C.np i x1 ρ with
        | some ρ3 => match asg C.np j x2 ρ3 with
          | some ρ4 => .ok .nx ρ4
          | none => .bad
        | none => .bad
      | _, _ => .bad)) : N.nx ((σ.set i (some v)).set j (some w)) H := by
  cases e1 : rsvP o1 ρ with
  | none => rw [e1] at p; exact p.elim
  | some x1 =>
    cases e2 : rsvP o2 ρ with
    | none => rw [e1, e2] at p; exact p.elim
    | some x2 =>
      rw [e1, e2] at p
      dsimp only at p
      obtain ⟨y1, t1⟩ := rsvP_ok E od1 e1
      obtain ⟨y2, t2⟩ := rsvP_ok E od2 e2
      cases e3 : asg C.np i x1 ρ with
      | none => rw [e3] at p; exact p.elim
      | some ρ3 =>
        rw [e3] at p
        dsimp only at p
        cases e4 : asg C.np j x2 ρ3 with
        | none => rw [e4] at p; exact p.elim
        | some ρ4 =>
          rw [e4] at p
          have E3 := asg_ok E y1 e3
          have y2' := OD.stored (v := v) e3 y2 (rsvP_pl e2) fun d d' h h' => hne d d' (t1 d h) (t2 d' h')
          exact p G _ H Sub.rfl (asg_ok E3 y2' e4)
theorem ds_par {i j : Nat} {x y : Str} {px py pt : Pos} {kt k2 pt2} (hc : X.calm = true) (hN : X.N.Nodup) (hi : X.N[i]? = some x) (hj : X.N[j]? = some y) (hij : i ≠ j)
    (hx : X.env.scope.names.lookup x = some .local) (hy : X.env.scope.names.lookup y = some .local) (ha : PE X a (tE C W f)) (hb : PE X b (tE C W g))
    (hw : swappedStores [.Tuple [.Name x px, .Name y py] kt pt] (.Tuple [a, b] k2 pt2) X.env = pure (some [x, y]))
    (hs : swapsWithSole [.Tuple [.Name x px, .Name y py] kt pt] (.Tuple [a, b] k2 pt2) pos.line X.env = pure false := by rfl)
    (s1 : starEach [a, b] X.env = (false, eval a X.env) :: starEach [b] X.env := by rfl) (s2 : starEach [b] X.env = (false, eval b X.env) :: starEach [] X.env := by rfl) :
    PS X (.Assign [.Tuple [.Name x px, .Name y py] kt pt] (.Tuple [a, b] k2 pt2) pos) (tS C W (sPar C.np i j f g)) :=
  PS.st (ps_par hc hN hi hj hij hx hy (pa_cons ha (pa_cons hb pa_nil s2) s1) hw hs) fun N σ H h => by
    obtain ⟨Y, G, ρ, E, p⟩ := h
    refine seq0 (C := C) (PostS.lk (σ := σ)) E p fun G1 H1 ρ1 o1 v sg1 E1 od1 p1 => ?_
    by_cases hown : ∃ d, o1 = .own d
    · obtain ⟨d, rfl⟩ := hown
      obtain ⟨q, rfl, gn, oa, h0, nr⟩ := od1
      obtain ⟨u, hu⟩ := oa.some
      have off := E1.offO gn h0 nr (by obtain ⟨u', hu', hq⟩ := oa.quiet; exact tabs_no E1.tb.2 hu' hq)
      have E1' := E1.hold gn hu nr
      refine ⟨Y.prot q u, G1, ρ1, E1', ?_⟩
      cases hg : g ρ1 with
      | bad => rw [hg] at p1; exact p1.elim
      | exc c d' ρ2 =>
        rw [hg] at p1
        exact fun T dx G' H' hc s E' x => p1 T dx G' σ H' hc s (E'.unprot off) x.unprot
      | ok o2 ρ2 =>
        rw [hg] at p1
        intro G2 H2 w s2 E2 od2
        obtain ⟨od2', hne⟩ := OD.unhold E2 off od2
        have oa2 : ownAt C.b G2 H2 q d := oa.mono s2 ((E2.cell off).1.trans hu.symm)
        obtain ⟨E3, od3⟩ := E2.cellO off oa2
        exact ⟨_, _, rfl, par_end E3 od3 od2' (fun d1 d2 _ h2 z => hne d2 h2 z.symm) (PostS.mono s2 p1)⟩
    · refine seq0 (C := C) (PostS.lk (σ := σ)) E1 p1 fun G2 H2 ρ2 o2 w sg2 E2 od2 p2 => ?_
      have od1' : OD C Y G2 σ H2 ρ2 o1 v := od1.mv (by cases o1 with | own d => exact (hown ⟨d, rfl⟩).elim | val _ => trivial | slot _ => trivial) sg2
      exact ⟨_, _, rfl, par_end E2 od1' od2 (fun d1 _ h1 _ => (hown ⟨d1, h1⟩).elim) p2⟩

/-! ### constants of the module -/
/-- plain values that need no heap -/
def plainD : D → Bool
  | .non => true
  | .bl _ => true
  | .int _ => true
  | .str _ => true
  | _ => false
def vOf : D → V
  | .bl b => .bl b
  | .int i => .int i
  | .str s => .str s
  | _ => .non
theorem den_vOf {d : D} (h : plainD d = true) (G : Hp) : den C.b G d (vOf d) := by
  cases d <;> first | (unfold den vOf; rfl) | cases h
theorem wCon (d : D) {x : Str} {p : Pos} (hd : plainD d = true) (hm : ∃ u, X.mg x = some u ∧ RelV (vOf d) u) (hg : Gl X x := by rfl) (hdb : (x == ("__debug__" : Str)) = false := by decide) : PE X (.Name x p) (tE C W (eC d)) := by
  obtain ⟨u, h1, h2⟩ := hm
  exact de_glob hg h1 h2 (fun G => den_vOf hd G) hdb
end
end DL

set_option Elab.async false
set_option linter.all false
set_option maxRecDepth 100000
set_option maxHeartbeats 1000000
/-! The data layer: pops, a star in a tuple, defaults. -/
namespace DL
open PySem PySem.Spec L2
open PyProof.Rows hiding St

section
variable {X : Cx} {C : Cn} {W : WX} {k : Nat} {fr : List Str} {a b e o : Expr} {es : List Expr} {f g : M Opd} {fs : List (M Opd)} {i : Nat} {p pos apos cpos : Pos}
theorem wPopAt (B : Bd X C W k fr) (ho : PE X o (tE C W (eV i))) (ha : PA X (e :: es) (tA C W (eA fs)))
    (hbase : attributeBase o "pop" X.env (eval o X.env) = eval o X.env := by rfl)
    (hfew : ((backTo cpos (starEach (e :: es) X.env)).all (fun x => !x.1) && (backToKw cpos (keywordEach [] X.env)).all (fun x => x.1.isSome)
      && decide ((e :: es).length + ([] : List Keyword).length + (if ([] : List Keyword).isEmpty then 0 else 1) < 30)) = true := by rfl)
    (hline : (apos.endLine == cpos.line) = true := by rfl) (hs : starEach (e :: es) X.env = (false, eval e X.env) :: starEach es X.env := by rfl) (hplain : (backTo cpos (starEach es X.env)).any (·.1) = false := by rfl) :
    PE X (.Call (.Attribute o "pop" apos) (e :: es) [] cpos) (tE C W (eMut "list" i fs popAtF)) := de_mut PySem.F.plainAttrs_list PySem.F.slot_list_pop PySem.F.type_list_pop mt_popAt popAtD ho ha hbase hfew hline hs hplain
theorem wPop0 (B : Bd X C W k fr) (ho : PE X o (tE C W (eV i))) (hbase : attributeBase o "pop" X.env (eval o X.env) = eval o X.env := by rfl) (hline : (apos.endLine == cpos.line) = true := by rfl) :
    PE X (.Call (.Attribute o "pop" apos) [] [] cpos) (tE C W (eMut "list" i [] popF)) := de_mut0 PySem.F.plainAttrs_list PySem.F.slot_list_pop PySem.F.type_list_pop mt_pop popD ho hbase hline

/-! ### (*xs, y, ..) -/
def itemsD : D → Option (List D)
  | .tup ds => some ds
  | .lst ds => some ds
  | _ => none
def eAs (f : M Opd) (r : M (List Opd)) : M (List Opd) := fun ρ => (f ρ).bind fun o ρ1 => match takeO o ρ1 with
  | some (d, ρ2) => match itemsD d with
    | some ds => (r ρ2).bind fun os ρ3 => .ok (ds.map .val ++ os) ρ3
    | none => .bad
  | none => .bad
def eTupA (r : M (List Opd)) : M Opd := fun ρ => (r ρ).bind fun os ρ1 => match takeAll os ρ1 with
  | some (ds, ρ2) => if ds.length ≤ 16777216 then .ok (.val (.tup ds)) ρ2 else .bad
  | none => .bad
theorem allOD_app {Y : Gr} {G : Hp} {σ : St} {H : Hp} {ρ : DEnv} : ∀ {ds : List D} {xs : List V} {os : List Opd} {vs : List V}, denL C.b G ds xs → allOD C Y G σ H ρ os vs → allOD C Y G σ H ρ (ds.map Opd.val ++ os) (xs ++ vs)
  | [], xs, os, vs, h, k => by unfold denL at h; subst h; exact k
  | d :: ds, xs, os, vs, h, k => by
    unfold denL at h
    obtain ⟨v, r, rfl, h1, h2⟩ := h
    exact ⟨v, r ++ vs, rfl, h1, allOD_app h2 k⟩
theorem da_star (hK : C.b.K = X.K) {r : M (List Opd)} (he : PE X e (tE C W f)) (hr : PA X es (tA C W r)) (hs : starEach (.Starred e p :: es) X.env = (true, eval e X.env) :: starEach es X.env := by rfl) : PA X (.Starred e p :: es) (tA C W (eAs f r)) :=
  PA.st (StX.pa_star he hr hs) fun σ H Q q => by
    obtain ⟨Y, G, ρ, E, p⟩ := q
    refine seq0 (C := C) PostA.lk E p fun G1 H1 ρ1 o v s1 E1 od p1 => ?_
    cases e1 : takeO o ρ1 with
    | none => rw [e1] at p1; exact p1.elim
    | some z =>
      obtain ⟨d, ρ2⟩ := z
      rw [e1] at p1
      dsimp only at p1
      cases e2 : itemsD d with
      | none => rw [e2] at p1; exact p1.elim
      | some ds =>
        rw [e2] at p1
        obtain ⟨G2, s2, E2, dn⟩ := takeO_ok E1 od e1
        obtain ⟨q, xs, rfl, hq, dx⟩ : ∃ q xs, v = .ref q ∧ (SqT X.K H1 q xs ∨ SqL X.K H1 q xs) ∧ denL C.b G2 ds xs := by
          cases d <;> first | cases e2 | skip
          · unfold den at dn
            obtain ⟨q, xs, rfl, h1, h2⟩ := dn
            exact ⟨q, xs, rfl, .inr (SqL.of (E2.sub _ _ h1)), h2⟩
          · unfold den at dn
            obtain ⟨q, xs, rfl, h1, h2⟩ := dn
            exact ⟨q, xs, rfl, .inl (by rw [← hK]; exact E2.sub.sqT h1), h2⟩
        refine ⟨q, xs, rfl, hq, ?_⟩
        refine seqA (C := C) PostA.lk E2 (PostA.mono s2 p1) fun G3 H3 ρ3 os vs s3 E3 ods p3 => ?_
        exact p3 G3 H3 _ Sub.rfl E3 (allOD_app (denL.mono s3 _ _ dx) ods)
/-- arguments that stay -/
def PlA (r : M (List Opd)) : Prop := ∀ ρ os ρ', r ρ = .ok os ρ' → allPl os
theorem plA_eA : PlA (eA fs) := fun _ _ _ h => eA_pl h
theorem allPl_app : ∀ (ds : List D) {os : List Opd}, allPl os → allPl (ds.map Opd.val ++ os)
  | [], _, h => h
  | _ :: ds, _, h => ⟨trivial, allPl_app ds h⟩
theorem plA_eAs {r : M (List Opd)} (hr : PlA r) : PlA (eAs f r) := fun ρ os ρ' h => by
  unfold eAs at h
  cases h1 : f ρ with
  | bad => rw [h1] at h; cases h
  | exc c d ρ1 => rw [h1] at h; cases h
  | ok o ρ1 =>
    rw [h1] at h
    dsimp only [R.bind_ok] at h
    cases h2 : takeO o ρ1 with
    | none => rw [h2] at h; cases h
    | some z =>
      obtain ⟨d, ρ2⟩ := z
      rw [h2] at h
      dsimp only at h
      cases h3 : itemsD d with
      | none => rw [h3] at h; cases h
      | some ds =>
        rw [h3] at h
        dsimp only at h
        cases h4 : r ρ2 with
        | bad => rw [h4] at h; cases h
        | exc c d ρ1 => rw [h4] at h; cases h
        | ok os' ρ3 =>
          rw [h4] at h
          cases h
          exact allPl_app ds (hr _ _ _ h4)
theorem de_tupA {x1} {r : M (List Opd)} (h : PA X es (tA C W r)) (pl : PlA r) : PE X (.Tuple es x1 pos) (tE C W (eTupA r)) := by
  refine PE.st (pe_tup h) fun σ H Q q => ?_
  obtain ⟨Y, G, ρ, E, p⟩ := q
  refine ⟨Y, G, ρ, E, ?_⟩
  unfold eTupA at p
  cases hr : r ρ with
  | bad => rw [hr] at p; exact p
  | exc c d ρ1 => rw [hr] at p; exact p
  | ok os ρ1 =>
    rw [hr] at p
    intro G1 H1 vs s1 E1 ods
    have p1 := Post.mono s1 p
    dsimp only [R.bind_ok] at p1
    cases e1 : takeAll os ρ1 with
    | none => rw [e1] at p1; exact p1.elim
    | some z =>
      obtain ⟨ds, ρ2⟩ := z
      rw [e1] at p1
      dsimp only at p1
      by_cases hz : ds.length ≤ 16777216
      · rw [if_pos hz] at p1
        obtain ⟨G2, s2, E2, d2⟩ := takeAll_ok E1 (pl _ _ _ hr) ods e1
        have hl := d2.len
        refine ⟨by rw [sz_eq]; omega, fun q hq => ?_⟩
        have sg : Sub G2 (upd G2 q (.tup vs)) := Sub.new (E2.gn hq)
        refine p1 _ _ _ (s2.trans sg) (E2.froze hq) ?_
        unfold OD den
        exact ⟨q, vs, rfl, SqT.of upd_same, denL.mono sg _ _ d2⟩
      · rw [if_neg hz] at p1; exact p1.elim

/-! ### calls that leave parameters to their defaults -/
def eCallD (np nN : Nat) (m : M Fl) (fs : List (M Opd)) (cs : List D) : M Opd := fun ρ => (eA fs ρ).bind fun os ρ1 => callM np nN m (os ++ cs.map .val) ρ1
structure CalD (P : Program) (w : World) (K : PySem.W.Frag) (mg : Str → Option Value) (base : Heap) (k : Nat) (b : Cb) (x : Str) (np nN : Nat) (m : M Fl) (cs : List D) : Prop where
  ex : ∃ f fd ps ds, FnD P w K mg base k f fd ps (spM b np nN m) ∧ mg x = some (.ref f) ∧ PySem.W.keepIn K (.ref f) = true ∧ Binds K fd ps ds ∧ Vals (cs.map vOf) ds
theorem CalD.mono {P : Program} {w : World} {K : PySem.W.Frag} {mg : Str → Option Value} {base : Heap} {j k : Nat} {b : Cb} {x : Str} {np nN : Nat} {m : M Fl} {cs : List D} (c : CalD P w K mg base j b x np nN m cs) (h : j ≤ k) : CalD P w K mg base k b x np nN m cs := by
  obtain ⟨f, fd, ps, ds, F, r⟩ := c.ex
  exact ⟨f, fd, ps, ds, F.mono h, r⟩
theorem allOD_plain {Y : Gr} {G : Hp} {σ : St} {H : Hp} {ρ : DEnv} : ∀ {os : List Opd} {vs : List V} {cs : List D}, cs.all plainD = true → allOD C Y G σ H ρ os vs → allOD C Y G σ H ρ (os ++ cs.map Opd.val) (vs ++ cs.map vOf)
  | [], vs, [], _, k => by cases (show vs = [] from k); rfl
  | [], vs, c :: cs, h, k => by
    cases (show vs = [] from k)
    rw [List.all_cons] at h
    obtain ⟨h1, h2⟩ := Bool.and_eq_true_iff.mp h
    exact ⟨vOf c, cs.map vOf, rfl, den_vOf h1 G, allOD_plain (os := []) (vs := []) h2 rfl⟩
  | o :: os, vs, cs, h, k => by
    obtain ⟨v, r, rfl, k1, k2⟩ := k
    exact ⟨v, r ++ cs.map vOf, rfl, k1, allOD_plain h k2⟩
end
end DL

set_option Elab.async false
set_option linter.all false
set_option maxRecDepth 100000
set_option maxHeartbeats 1000000
/-! The data layer: defs with defaults. -/
namespace DL
open PySem PySem.Spec L2
open PyProof.Rows hiding St

def tCallDD (sp : Sp) (dvs : List V) (W : WX) (t : TA) : TE := fun σ H Q => t σ H fun vs H1 => sp (vs ++ dvs) H1 Q fun c d H' => W c d σ H'
section
variable {X : Cx} {C : Cn} {W : WX} {k : Nat} {f : Addr} {fd : FuncData} {ps : List Str} {sp : Sp} {dvs : List V} {ds : List Value} {x : Str} {p pos : Pos} {e : Expr} {es : List Expr} {t : TA} {fr : List Str} {fs : List (M Opd)} {np nN : Nat} {m : M Fl} {cs : List D}
theorem pe_callDD (F : FnD X.prog X.w X.K X.mg X.base k f fd ps sp) (hr : Room k X.A) (hgd : X.A.guards = some []) (hg : Gl X x) (hm : X.mg x = some (.ref f)) (hk : PySem.W.keepIn X.K (.ref f) = true) (hb : Binds X.K fd ps ds) (hd : Vals dvs ds) (tk : TkC X W)
    (ha : PA X (e :: es) t) (hdb : (x == ("__debug__" : Str)) = false := by decide) (he : starEach (e :: es) X.env = (false, eval e X.env) :: starEach es X.env := by rfl) (hpl : (backTo pos (starEach es X.env)).any (·.1) = false := by rfl) :
    PE X (.Call (.Name x p) (e :: es) [] pos) (tCallDD sp dvs W t) :=
  ⟨fun pins s σ H Q I h => wpAny_Call_Name_kw (ld_glob I hg hm (PySem.W.callWith_K (h₀ := X.base) I.ok.mod.kin hk (thn (ha.run pos pins s σ H _ I h) fun us s1 ⟨vs, H1, I1, r, q⟩ => ⟨I1.kIn, by
    have r2 : Vals (vs ++ dvs) (us ++ ds) := r.append hd
    have hl : (us ++ ds).length = ps.length := by rw [← r2.length]; exact F.cnt _ _ _ _ q
    refine wpAny_call (codeAny_mono (F.go X.A X.stack s1 H1 ⟨us, []⟩ (us ++ ds) (vs ++ dvs) Q _ hr hgd I1.env0 (hb s1 us I1.kIn hl) r2 q) fun res s' hq => ?_)
    match res, hq with
    | .error e, hq => exact tk pins σ H1 s1 e s' I1 hq
    | .ok (.ret u), hq => exact I1.after hq⟩) he hpl) hdb)⟩
theorem wCallD (B : Bd X C W k fr) (c : CalD X.prog X.w X.K X.mg X.base k C.b x np nN m cs) (hp : cs.all plainD = true) (ha : PA X (e :: es) (tA C W (eA fs))) (hg : Gl X x := by rfl) (hdb : (x == ("__debug__" : Str)) = false := by decide) (he : starEach (e :: es) X.env = (false, eval e X.env) :: starEach es X.env := by rfl) (hpl : (backTo pos (starEach es X.env)).any (·.1) = false := by rfl) :
    PE X (.Call (.Name x p) (e :: es) [] pos) (tE C W (eCallD np nN m fs cs)) := by
  obtain ⟨f', fd, ps, ds, F, hm, hk, hb, hv⟩ := c.ex
  refine PE.st (pe_callDD F B.rm B.ct.gd hg hm hk hb hv B.tk ha hdb he hpl) fun σ H Q h => ?_
  obtain ⟨Y, G, ρ, E, q⟩ := h
  refine seqAp (C := C) Post.lk E q fun G1 H1 ρ1 os vs s1 pl E1 ods p1 => ?_
  -- the call of the whole list, as if it had been written out
  have ods' := allOD_plain hp ods
  unfold callM at p1
  cases ha : argsS (os ++ cs.map .val) ρ1 with
  | none => rw [ha] at p1; exact p1.elim
  | some ρa =>
    have z : tE C W (fun ρ => callM np nN m (os ++ cs.map .val) ρ) σ H1 Q := ⟨Y, G1, ρ1, E1, by unfold callM; exact p1⟩
    rw [ha] at p1
    dsimp only at p1
    split at p1
    · rename_i hh
      obtain ⟨hnp, hap⟩ := hh
      have A := args_ok E1 ods' ha hap
      refine ⟨by rw [← ods'.len]; exact hnp, G1, ρa, A, ?_⟩
      cases hm : m (startD nN ρa) with
      | bad => rw [hm] at p1; exact p1
      | exc c d ρ' =>
        rw [hm] at p1
        exact fun T dx G' σ' H' hc s E' x => p1 T dx G' H' hc s (E1.back ods' ha (C' := ⟨C.b, np⟩) rfl s E') (x.back E1)
      | ok fl ρ' =>
        rw [hm] at p1
        cases fl with
        | nx => exact fun G' σ' H' s E' => p1 G' H' .non s (E1.back ods' ha (C' := ⟨C.b, np⟩) rfl s E') (by unfold OD den; rfl)
        | bk => exact p1.elim
        | ct => exact p1.elim
        | rt o =>
          cases o with
          | slot i => exact p1.elim
          | val d => exact fun G' σ' H' v s E' od => p1 G' H' v s (E1.back ods' ha (C' := ⟨C.b, np⟩) rfl s E') od
          | own d =>
            intro G' σ' H' v s E' od
            obtain ⟨q, rfl, gn, oa, h0, nr⟩ := od
            have Eb := E1.back ods' ha (C' := ⟨C.b, np⟩) rfl s E'
            refine p1 G' H' _ s Eb ⟨q, rfl, gn, oa, E1.h0 h0, fun i e hi hs => ?_⟩
            have h0' : H1 q = none := h0
            have old : ∀ d0, ρ1[i]? = some (some (true, d0)) → False := fun d0 hd0 => by
              obtain ⟨p', p1', _, p3, _⟩ := E1.own i d0 hd0
              rw [hs] at p1'; cases p1'
              obtain ⟨u, hu⟩ := p3.some
              rw [h0'] at hu; cases hu
            rcases backD_get hi with ⟨m', o', ho, hix, hx⟩ | ⟨hn, hr⟩
            · obtain ⟨rfl, d0, hd0⟩ := ownIx_some hix
              exact old d0 hd0
            · exact old e hr
    · exact p1.elim
end
/-- a def with defaults keeps the promise of its mirror -/
theorem fnM_ofD {P : Program} {w : World} {K : PySem.W.Frag} {mg : Str → Option Value} {base : Heap} {k : Nat} {f : Addr} {name qual : Str} {params : Arguments} {body : List Stmt} {scope : Scope} {fd : FuncData} {dvs : List V} {kws : List (Str × V)}
    {N ps : List Str} {b : Cb} {m : M Fl} (F : FunD K name qual params body scope dvs kws f fd) (S : FnScope N ps scope)
    (hbody : ∀ (cdv : Value) (A : Around) (outer : List Env) (s : Shared) (H : Hp) (E : XK), Room k (A.deeper (envOfC qual scope s.heap.objs.size f cdv)) → A.guards = some [] →
      PSs (cxOf (CX P w) P w K mg base N qual scope f cdv A outer s H E) body (tS ⟨b, ps.length⟩ (fun T dx _ H' => E T dx H') m)) :
    FnD P w K mg base (k + 1) f fd ps (spM b ps.length N.length m) := by
  obtain ⟨oc, od, dV, kV, doc, pm, an, cdv, ct, osl, rfl, lk, hcd, _, _⟩ := F.ex
  refine fnD_of lk hcd S (fun vs H Q E h => h.1) fun A outer s H vs Q E hr hgd hsp => ?_
  obtain ⟨hl, G, ρa, a, p⟩ := hsp
  refine ⟨_, hbody cdv A outer s H E hr hgd, grA b.T G H vs ρa, G, startD N.length ρa, ?_, p⟩
  have := a.start N
  rw [hl] at this
  exact this
theorem CalD.of {P : Program} {w : World} {K : PySem.W.Frag} {mg : Str → Option Value} {base : Heap} {k : Nat} {f : Addr} {name qual : Str} {params : Arguments} {body : List Stmt} {scope : Scope} {fd : FuncData} {errs fr : List Str} {tb : List (Addr × Str)} {dvs : List V}
    {N ps : List Str} {m : M Fl} (T : Tp P K mg base errs tb fr) (F : FunD K name qual params body scope dvs [] f fd) (S : FnScope N ps scope)
    (hbody : ∀ (X : Cx) (W : WX) (cdv : Value) (A : Around) (outer : List Env) (s : Shared) (H : Hp) (E : XK), X = cxOf (CX P w) P w K mg base N qual scope f cdv A outer s H E → Bd X ⟨⟨K, mg, errs, tb⟩, ps.length⟩ W k fr → PassesOwn (model X.prog X.w) X.A X.env X.xe → Takes X W → PSs X body (tS ⟨⟨K, mg, errs, tb⟩, ps.length⟩ W m)) :
    FnD P w K mg base (k + 1) f fd ps (spM ⟨K, mg, errs, tb⟩ ps.length N.length m) := fnM_ofD F S fun cdv A outer s H E hr hgd => by
  refine hbody _ _ cdv A outer s H E rfl ?_ (passes_of rfl) (takes_of (X := cxOf (CX P w) P w K mg base N qual scope f cdv A outer s H E) (E := E) rfl rfl rfl rfl)
  refine ⟨⟨rfl, rfl, ?_, hgd, T.sm⟩, hr, TkC.of (takes_of (X := cxOf (CX P w) P w K mg base N qual scope f cdv A outer s H E) (E := E) rfl rfl rfl rfl), rfl, S.nd, T.free⟩
  obtain ⟨h⟩ := T.err
  exact ⟨h⟩
/-- .. as it is called with the last j parameters left out -/
theorem CalD.mk' {P : Program} {w : World} {K : PySem.W.Frag} {mg : Str → Option Value} {base : Heap} {k : Nat} {f : Addr} {name qual : Str} {params : Arguments} {body : List Stmt} {scope : Scope} {fd : FuncData} {cs : List D} {b : Cb} {ps : List Str} {nN : Nat} {m : M Fl}
    (F' : FnD P w K mg base k f fd ps (spM b ps.length nN m)) (F : FunD K name qual params body scope (cs.map vOf) [] f fd) (hm : mg name = some (.ref f)) (n j : Nat) (hd : cs ≠ []) (hn : n + (cs.length - j) = ps.length)
    (h : ∀ (T : Addr) (kV doc pm : Value) (an : Option Addr) (cdv ct : Value) (us its : List Value), us.length = n → its.length = cs.length →
      ∃ k, bindArgs (PySem.W.fnOf name qual params body scope (.ref T) kV doc pm an cdv ct) ⟨us, []⟩ = seqItems? (.ref T) >>= k ∧ k (some its.toArray) = pure (ps.zip (us ++ its.drop j))) : CalD P w K mg base k b name ps.length nN m (cs.drop j) := by
  obtain ⟨ds, h1, h2⟩ := F.binds1 (ps := ps) n j (by cases cs with | nil => exact (hd rfl).elim | cons _ _ => simp) (by rw [List.length_map]; exact hn) (fun T kV doc pm an cdv ct us its hu hi => h T kV doc pm an cdv ct us its hu (by rw [List.length_map] at hi; exact hi))
  exact ⟨f, fd, ps, ds, F', hm, F.kp, h2, by rw [List.map_drop]; exact h1⟩
end DL
namespace DL
open PySem PySem.Spec L2
open PyProof.Rows hiding St
/-- constants of the module -/
def Kn (mg : Str → Option Value) (l : List (Str × D)) : Prop := ∀ (i : Nat) (x : Str) (d : D), l[i]? = some (x, d) → ∃ u, mg x = some u ∧ RelV (vOf d) u
/-- the fuel of a loop -/
def fuel : Nat := 4294967296
end DL

set_option Elab.async false
set_option linter.all false
set_option maxRecDepth 100000
set_option maxHeartbeats 1000000
/-! The data layer: finished instances of a slotted class. -/
namespace DL
open PySem PySem.Spec L2
open PyProof.Rows hiding St

/-- the class c has the slot f at i -/
def SloC (K : PySem.W.Frag) (mg : Str → Option Value) (c f : Str) (i : Nat) : Prop := ∃ T p, mg c = some (.ref T) ∧ SlX.SCls K T ∧ SlX.Slot1 K T f p i
def sloF (c : Str) (i : Nat) : D → Option Opd
  | .obj c' fs => if c' = c then (fs[i]?).map .val else none
  | _ => none
section
variable {X : Cx} {C : Cn} {W : WX} {k : Nat} {fr : List Str} {e : Expr} {g : M Opd} {c f : Str} {i : Nat} {pos : Pos}
theorem DV.obj {G H : Hp} {fs : List D} {v : V} (s : Sub G H) (h : DV C.b G H (.obj c fs) v) : ∃ a dx T vs, v = .ref a ∧ C.b.mg c = some (.ref T) ∧ SlX.Slt H a T dx (vs.map some) ∧ denL C.b G fs vs := by
  rcases h with h | ⟨_, _, h⟩
  · unfold den at h
    obtain ⟨a, dx, T, vs, e1, e2, e3, e4, e5, e6⟩ := h
    exact ⟨a, dx, T, vs, e1, e2, .inr ⟨s _ _ e4, s _ _ e5⟩, e6⟩
  · exact h.elim
theorem wSlot (B : Bd X C W k fr) (S : SloC X.K X.mg c f i) (he : PE X e (tE C W g)) (hb : attributeBase e f X.env (eval e X.env) = eval e X.env := by rfl) : PE X (.Attribute e f pos) (tE C W (e1 g (sloF c i))) :=
  PE.st (SlX.pe_sl he hb) fun σ H Q q => by
    obtain ⟨Y, G, ρ, E, p⟩ := q
    refine seq1 (C := C) Post.lk E p fun G1 H1 ρ1 o v s1 pl E1 od p1 => ?_
    unfold fin1 at p1
    cases l : look o ρ1 with
    | none => rw [l] at p1; exact p1.elim
    | some d =>
      rw [l] at p1
      dsimp only at p1
      cases hf : sloF c i d with
      | none => rw [hf] at p1; exact p1.elim
      | some o' =>
        rw [hf] at p1
        unfold sloF at hf
        split at hf
        · rename_i c' fs
          split at hf
          · rename_i hc
            subst hc
            cases hx : fs[i]? with
            | none => rw [hx] at hf; cases hf
            | some y =>
              rw [hx] at hf
              cases hf
              obtain ⟨a, dx, T, vs, rfl, hT, sl, dn⟩ := (look_ok E1 od l).obj E1.sub
              obtain ⟨T', p', hm, sc, st⟩ := S
              rw [B.ct.mg, hm] at hT
              cases hT
              obtain ⟨w, hw, dw⟩ := pd_get (denL_iff.mp dn) hx
              exact ⟨a, T, dx, p', _, i, w, rfl, sl, sc, st, by rw [List.getElem?_map, hw]; rfl, p1 G1 H1 w Sub.rfl E1 dw⟩
          · cases hf
        · cases hf
end
end DL

set_option Elab.async false
set_option linter.all false
set_option maxRecDepth 100000
set_option maxHeartbeats 1000000
/-! The data layer: methods of own classes, by their mirrors. -/
namespace DL
open PySem PySem.Spec L2
open PyProof.Rows hiding St

/-- the method n of the class c, by its mirror -/
structure CalM (P : Program) (w : World) (K : PySem.W.Frag) (mg : Str → Option Value) (base : Heap) (k : Nat) (b : Cb) (c n : Str) (np nN : Nat) (m : M Fl) : Prop where
  ex : ∃ T g fd ps, mg c = some (.ref T) ∧ PySem.W.findIn K (.ref T) n = some (some (.ref g)) ∧ PySem.W.isFn K (.ref g) = true ∧ PySem.W.fnIn K g = true ∧ FnD P w K mg base k g fd ps (spM b np nN m) ∧ Binds K fd ps []
def noExc (r : R Opd) : R Opd := match r with
  | .exc _ _ _ => .bad
  | r => r
def blOf (r : R Opd) : R Opd := match r with
  | .ok (.val (.bl b)) ρ => .ok (.val (.bl b)) ρ
  | _ => .bad
/-- x in o, o an instance of c -/
def eInO (c : Str) (nN : Nat) (m : M Fl) (f g : M Opd) : M Opd := fun ρ => (nrm f ρ).bind fun x ρ1 => (nrm g ρ1).bind fun y ρ2 => match look y ρ2 with
  | some (.obj c' _) => if c' = c then blOf (callM 2 nN m [y, x] ρ2) else .bad
  | _ => .bad
section
variable {X : Cx} {C : Cn} {W : WX} {k : Nat} {fr : List Str} {a b : Expr} {f g : M Opd} {c : Str} {nN : Nat} {m : M Fl} {pos : Pos}
def rInO (sp : Sp) (T : Addr) : R2 := fun x y H Q => ∃ o dx vs, y = .ref o ∧ SlX.Slt H o T dx vs ∧ sp [y, x] H (fun v H' => ∃ b, v = .bl b ∧ Q (.bl b) H') fun _ _ _ => False
theorem op_inO {T h : Addr} {fd : FuncData} {ps : List Str} {sp : Sp} (hr : Room k X.A) (hgd : X.A.guards = some []) (hf : PySem.W.findIn X.K (.ref T) "__contains__" = some (some (.ref h))) (hi : PySem.W.isFn X.K (.ref h) = true) (F : FnD X.prog X.w X.K X.mg X.base k h fd ps sp) (hb : Binds X.K fd ps []) : OpR X (compareOp .In) (rInO sp T) := by
  intro pins s σ H x y v u Q I rx ry q
  obtain ⟨o, dx, vs, rfl, sl, q⟩ := q
  obtain rfl : u = Value.ref o := ry
  obtain ⟨sa, od, _, ia, _⟩ := SlX.slt_inst I sl
  obtain ⟨mm, fr⟩ := I.fr
  have run := run_d (W := WF) (us := [.ref o, v]) (vs := [.ref o, x]) (σ := σ) (Q := fun z H' => ∃ b, z = .bl b ∧ Q (.bl b) H') F hr hgd hb TkC.none I (.cons rfl (.cons rx .nil)) q
  refine PySem.W.in_K fr I.ok.mod.kin ia hf hi (wpAny_mono run (fun r s' z => ?_) fun _ _ z => z)
  obtain ⟨z, H', I', rz, bb, rfl, q'⟩ := z
  cases rz
  exact wpAny_truthy_bool ⟨.bl bb, H', I', rfl, q'⟩
theorem allOD_two {Y : Gr} {G : Hp} {σ : St} {H : Hp} {ρ : DEnv} {x y : Opd} {v w : V} (h1 : OD C Y G σ H ρ x v) (h2 : OD C Y G σ H ρ y w) : allOD C Y G σ H ρ [x, y] [v, w] := ⟨v, [w], rfl, h1, w, [], rfl, h2, rfl⟩
/-- what a call of a mirror asks, from any end of it -/
theorem spM_of {Y : Gr} {G : Hp} {σ : St} {H : Hp} {ρ : DEnv} {Q : VK} {np : Nat} {os : List Opd} {vs : List V} (E : ED C Y G σ H ρ) (ods : allOD C Y G σ H ρ os vs) (p : Post C W Q Y G σ (callM np nN m os ρ)) : spM C.b np nN m vs H Q fun c d H' => W c d σ H' := by
  have e : eA [] ρ = .ok [] ρ := rfl
  unfold callM at p
  cases ha : argsS os ρ with
  | none => rw [ha] at p; exact p.elim
  | some ρa =>
    rw [ha] at p
    dsimp only at p
    split at p
    · rename_i hh
      obtain ⟨hnp, hap⟩ := hh
      have A := args_ok E ods ha hap
      refine ⟨by rw [← ods.len]; exact hnp, G, ρa, A, ?_⟩
      cases hm : m (startD nN ρa) with
      | bad => rw [hm] at p; exact p
      | exc c d ρ' =>
        rw [hm] at p
        exact fun T dx G' σ' H' hc s E' x => p T dx G' H' hc s (E.back ods ha (C' := ⟨C.b, np⟩) rfl s E') (x.back E)
      | ok fl ρ' =>
        rw [hm] at p
        cases fl with
        | nx => exact fun G' σ' H' s E' => p G' H' .non s (E.back ods ha (C' := ⟨C.b, np⟩) rfl s E') (by unfold OD den; rfl)
        | bk => exact p.elim
        | ct => exact p.elim
        | rt o =>
          cases o with
          | slot i => exact p.elim
          | val d => exact fun G' σ' H' v s E' od => p G' H' v s (E.back ods ha (C' := ⟨C.b, np⟩) rfl s E') od
          | own d =>
            intro G' σ' H' v s E' od
            obtain ⟨q, rfl, gn, oa, h0, nr⟩ := od
            refine p G' H' _ s (E.back ods ha (C' := ⟨C.b, np⟩) rfl s E') ⟨q, rfl, gn, oa, E.h0 h0, fun i e hi hs => ?_⟩
            have h0' : H q = none := h0
            have old : ∀ d0, ρ[i]? = some (some (true, d0)) → False := fun d0 hd0 => by
              obtain ⟨p', p1', _, p3, _⟩ := E.own i d0 hd0
              rw [hs] at p1'; cases p1'
              obtain ⟨u, hu⟩ := p3.some
              rw [h0'] at hu; cases hu
            rcases backD_get hi with ⟨m', o', ho, hix, hx⟩ | ⟨hn, hr⟩
            · obtain ⟨rfl, d0, hd0⟩ := ownIx_some hix
              exact old d0 hd0
            · exact old e hr
    · exact p.elim
theorem inO_of {T : Addr} (hT : C.b.mg c = some (.ref T)) {σ : St} {H : Hp} {Q : VK} (q : tE C W (eInO c nN m f g) σ H Q) : tOp (rInO (spM C.b 2 nN m) T) (tE C W f) (tE C W g) σ H Q := by
  obtain ⟨Y, G, ρ, E, p⟩ := q
  refine seq1 (C := C) Post.lk E p fun G1 H1 ρ1 x v s1 pl1 E1 od1 p1 => ?_
  refine seq1 (C := C) Post.lk E1 p1 fun G2 H2 ρ2 y w s2 pl2 E2 od2 p2 => ?_
  split at p2
  · rename_i c' fs l
    split at p2
    · rename_i hc
      subst hc
      obtain ⟨a, dx, T', vs, rfl, hT', sl, _⟩ := (look_ok E2 od2 l).obj E2.sub
      rw [hT] at hT'; cases hT'
      refine ⟨a, dx, _, rfl, sl, ?_⟩
      refine spM_of (W := WF) (σ := σ) E2 (allOD_two od2 (od1.mv pl1 s2)) ?_
      cases hcall : callM 2 nN m [y, x] ρ2 with
      | bad => rw [hcall] at p2; exact p2
      | exc c d ρ3 => rw [hcall] at p2; exact p2.elim
      | ok o ρ3 =>
        rw [hcall] at p2
        unfold blOf at p2
        split at p2
        · rename_i bb ρ4 he
          cases he
          intro G3 H3 z s3 E3 od3
          have od3' : den C.b G3 (.bl bb) z := od3
          unfold den at od3'
          exact ⟨bb, od3', p2 G3 H3 _ s3 E3 (by unfold OD den; rfl)⟩
        · exact p2.elim
    · exact p2.elim
  · exact p2.elim
theorem wInO (B : Bd X C W k fr) (cm : CalM X.prog X.w X.K X.mg X.base k C.b c "__contains__" 2 nN m) (ha : PE X a (tE C W f)) (hb : PE X b (tE C W g)) (hm : behindInMarks .In b = false := by with_unfolding_all rfl) : PE X (.Compare a [.In] [b] pos) (tE C W (eInO c nN m f g)) := by
  obtain ⟨T, h, fd, ps, hT, h1, h2, h3, F, hbn⟩ := cm.ex
  exact PE.st (pe_cmpR (op_inO B.rm B.ct.gd h1 h2 F hbn) ha hb hm) fun _ _ _ q => inO_of (by rw [B.ct.mg]; exact hT) q
theorem xInO (B : Bd X C W k fr) (cm : CalM X.prog X.w X.K X.mg X.base k C.b c "__contains__" 2 nN m) (ha : PE X a (tE C W f)) (hb : PE X b (tE C W g)) (hm : behindInMarks .In b = false := by with_unfolding_all rfl) : PT X (.Compare a [.In] [b] pos) (tT C W (tV (eInO c nN m f g))) := by
  obtain ⟨T, h, fd, ps, hT, h1, h2, h3, F, hbn⟩ := cm.ex
  exact PT.st (pt_cmpR (op_inO B.rm B.ct.gd h1 h2 F hbn) ha hb hm) fun _ _ _ q => inO_of (by rw [B.ct.mg]; exact hT) (tB_of q)
end
end DL

set_option Elab.async false
set_option linter.all false
set_option maxRecDepth 100000
set_option maxHeartbeats 1000000
/-! The data layer: o[x] of an own class. -/
namespace DL
open PySem PySem.Spec L2
open PyProof.Rows hiding St

/-- o[x], o an instance of c -/
def eIxO (c : Str) (nN : Nat) (m : M Fl) (f g : M Opd) : M Opd := fun ρ => (nrm f ρ).bind fun x ρ1 => (nrm g ρ1).bind fun y ρ2 => match look x ρ2 with
  | some (.obj c' _) => if c' = c then callM 2 nN m [x, y] ρ2 else .bad
  | _ => .bad
section
variable {X : Cx} {C : Cn} {W : WX} {k : Nat} {fr : List Str} {a b : Expr} {f g : M Opd} {c : Str} {nN : Nat} {m : M Fl} {pos : Pos}
theorem run_in1 {h : Addr} {fd : FuncData} {ps : List Str} {sp : Sp} {pins : List (Addr × Obj)} {σ : St} {H : Hp} {s : Shared} {Q : VK} {us : List Value} {vs : List V} (F : FnD X.prog X.w X.K X.mg X.base k h fd ps sp) (hr : Room (k + 1) X.A) (hgd : X.A.guards = some []) (hb : Binds X.K fd ps []) (tk : TkC X W)
    (I : Inv X pins σ H s) (r : Vals vs us) (q : sp vs H Q fun c d H' => W c d σ H') : wpAny (model X.prog X.w) X.A.in1 (call (.ref h) us) (EP X pins σ Q) X.xe s := by
  have hl : (us ++ []).length = ps.length := by rw [List.append_nil, ← r.length]; exact F.cnt _ _ _ _ q
  have b := hb s us I.kIn hl
  rw [List.append_nil] at b
  refine wpAny_call (codeAny_mono (F.go X.A.in1 X.stack s H ⟨us, []⟩ us vs Q _ hr.in1 hgd I.env0.in1 b r q) fun res s' hq => ?_)
  match res, hq with
  | .error e, hq => exact tk pins σ H s e s' I hq
  | .ok (.ret u), hq => exact I.after hq
theorem wIxO (B : Bd X C W (k + 1) fr) (cm : CalM X.prog X.w X.K X.mg X.base k C.b c "__getitem__" 2 nN m) (ha : PE X a (tE C W f)) (hb : PE X b (tE C W g)) (hs : ∀ o i, subscripted b true o i = runValue (.builtin "lifetime.subscript" ⟨[o, i], []⟩) := by intro _ _; with_unfolding_all rfl) :
    PE X (.Subscript a b pos) (tE C W (eIxO c nN m f g)) := by
  obtain ⟨T, h, fd, ps, hT, h1, h2, h3, F, hbn⟩ := cm.ex
  refine ⟨fun pins s σ H Q I q => Subscript_ (binT ha hb I (R := fun x y H2 => ∃ o dx vs, x = .ref o ∧ SlX.Slt H2 o T dx vs ∧ spM C.b 2 nN m [x, y] H2 Q fun c d H' => W c d σ H') ?_ fun v u s2 x y H2 I2 rx ry q2 => ?_)⟩
  · obtain ⟨Y, G, ρ, E, p⟩ := q
    refine seq1 (C := C) Post.lk E p fun G1 H1 ρ1 x v s1 pl1 E1 od1 p1 => ?_
    refine seq1 (C := C) Post.lk E1 p1 fun G2 H2 ρ2 y w s2 pl2 E2 od2 p2 => ?_
    split at p2
    · rename_i c' fs l
      split at p2
      · rename_i hc
        subst hc
        obtain ⟨o, dx, T', vs, rfl, hT', sl, _⟩ := (look_ok E2 (od1.mv pl1 s2) l).obj E2.sub
        rw [B.ct.mg, hT] at hT'; cases hT'
        exact ⟨o, dx, _, rfl, sl, spM_of E2 (allOD_two (od1.mv pl1 s2) od2) p2⟩
      · exact p2.elim
    · exact p2.elim
  · obtain ⟨o, dx, vs, rfl, sl, q3⟩ := q2
    obtain rfl : v = Value.ref o := rx
    obtain ⟨sa, od, _, ia, _⟩ := SlX.slt_inst I2 sl
    obtain ⟨mm, fr'⟩ := I2.fr
    have rv : Vals [V.ref o, y] [Value.ref o, u] := .cons rfl (.cons ry .nil)
    exact PySem.W.sub_K fr' I2.ok.mod.kin ia h1 h3 h2 (run_in1 (vs := [V.ref o, y]) F B.rm B.ct.gd hbn B.tk I2 rv q3) (hs _ _)
end
end DL

set_option Elab.async false
set_option linter.all false
set_option maxRecDepth 100000
set_option maxHeartbeats 1000000
/-! The data layer: o.m(x, ..) of an own class. -/
namespace DL
open PySem PySem.Spec L2
open PyProof.Rows hiding St

/-- o.m(x, ..), o an instance of c -/
def eMeO (c : Str) (np nN : Nat) (m : M Fl) (f : M Opd) (fs : List (M Opd)) : M Opd := fun ρ => (nrm f ρ).bind fun x ρ1 => match look x ρ1 with
  | some (.obj c' _) => if c' = c then (eA fs ρ1).bind fun os ρ2 => callM np nN m (x :: os) ρ2 else .bad
  | _ => .bad
section
variable {X : Cx} {C : Cn} {W : WX} {k : Nat} {fr : List Str} {o e : Expr} {es : List Expr} {f : M Opd} {fs : List (M Opd)} {c n : Str} {np nN : Nat} {m : M Fl} {pos apos : Pos}
theorem wMeO {pl : Sem Bool} (B : Bd X C W k fr) (cm : CalM X.prog X.w X.K X.mg X.base k C.b c n np nN m) (S : ∀ T, X.mg c = some (.ref T) → SlX.SCls X.K T ∧ ∀ g, PySem.W.findIn X.K (.ref T) n = some (some (.ref g)) → Meth X.K T n g) (ho : PE X o (tE C W f)) (ha : PA X (e :: es) (tA C W (eA fs)))
    (hst : starEach (e :: es) X.env = (false, eval e X.env) :: starEach es X.env := by rfl) (hpl : (backTo pos (starEach es X.env)).any (·.1) = false := by rfl)
    (ht : eval (.Call (.Attribute o n apos) (e :: es) [] pos) X.env = (do
      let ov ← eval o X.env
      standAt apos.atName
      let (f, first) ← holding [ov] (getMethod ov n pl)
      callWith pos f first (backTo pos (starEach (e :: es) X.env)) (backToKw pos (keywordEach [] X.env))) := by rfl) :
    PE X (.Call (.Attribute o n apos) (e :: es) [] pos) (tE C W (eMeO c np nN m f fs)) := by
  obtain ⟨T, h, fd, ps, hT, h1, h2, h3, F, hbn⟩ := cm.ex
  obtain ⟨sc, hm⟩ := S T hT
  have mt := hm h h1
  refine ⟨fun pins s σ H Q I q => PySem.W.methodCall_KW (pl := pl) (thn (ho.run pins s σ H (fun x H1 => ∃ a dx vs, x = .ref a ∧ SlX.Slt H1 a T dx vs ∧ tA C W (eA fs) σ H1 fun ws H2 => spM C.b np nN m (.ref a :: ws) H2 Q fun c d H' => W c d σ H') I ?_) fun u s1 hh => ?_) ht⟩
  · obtain ⟨Y, G, ρ, E, p⟩ := q
    refine seq1 (C := C) Post.lk E p fun G1 H1 ρ1 x v s1 pl1 E1 od1 p1 => ?_
    split at p1
    · rename_i c' fs' l
      split at p1
      · rename_i hc
        subst hc
        obtain ⟨a, dx, T', vs, rfl, hT', sl, _⟩ := (look_ok E1 od1 l).obj E1.sub
        rw [B.ct.mg, hT] at hT'; cases hT'
        refine ⟨a, dx, _, rfl, sl, ?_⟩
        refine seqAp (C := C) Post.lk E1 p1 fun G2 H2 ρ2 os ws s2 pl2 E2 ods p2 => ?_
        exact spM_of (os := x :: os) E2 ⟨_, ws, rfl, od1.mv pl1 s2, ods⟩ p2
      · exact p1.elim
    · exact p1.elim
  · obtain ⟨x, H1, I1, rx, a, dx, vs, ex, sl, q1⟩ := hh
    subst ex
    obtain rfl : u = Value.ref a := rx
    refine SlX.getmethsl_ok I1 sl sc mt (PySem.W.callWith_K (first := [.ref a]) (h₀ := X.base) I1.ok.mod.kin mt.kp (thn (ha.run pos pins s1 σ H1 _ I1 q1) fun us s2 ⟨ws, H2, I2, r, q2⟩ => ⟨I2.kIn, ?_⟩) hst hpl)
    have rv : Vals (V.ref a :: ws) (Value.ref a :: us) := .cons rfl r
    exact run_d (us := .ref a :: us) (vs := V.ref a :: ws) F B.rm B.ct.gd hbn B.tk I2 rv q2
end
end DL

set_option Elab.async false
set_option linter.all false
set_option maxRecDepth 100000
set_option maxHeartbeats 1000000
/-! The data layer: properties of an own class. -/
namespace DL
open PySem PySem.Spec L2
open PyProof.Rows hiding St

/-- the property n of the class c, by its getter's mirror -/
structure CalP (P : Program) (w : World) (K : PySem.W.Frag) (mg : Str → Option Value) (base : Heap) (k : Nat) (b : Cb) (c n : Str) (nN : Nat) (m : M Fl) : Prop where
  ex : ∃ T p g fd ps, mg c = some (.ref T) ∧ SlX.SCls K T ∧ PySem.W.findIn K (.ref T) n = some (some (.ref p)) ∧ PySem.W.specialIn K (.ref p) "__get__" = some (some (.builtin "property.__get__")) ∧ PySem.W.takesIn K (.ref p) = some true ∧
    (∃ rest, PySem.W.recIn K p "property" = some (.ref g :: rest)) ∧ FnD P w K mg base k g fd ps (spM b 1 nN m) ∧ Binds K fd ps []
/-- o.n -/
def ePrO (c : Str) (nN : Nat) (m : M Fl) (f : M Opd) : M Opd := fun ρ => (nrm f ρ).bind fun x ρ1 => match look x ρ1 with
  | some (.obj c' _) => if c' = c then noExc (callM 1 nN m [x] ρ1) else .bad
  | _ => .bad
section
variable {X : Cx} {C : Cn} {W : WX} {k : Nat} {fr : List Str} {e : Expr} {f : M Opd} {c n : Str} {nN : Nat} {m : M Fl} {pos : Pos}
theorem wPrO (B : Bd X C W (k + 1) fr) (cp : CalP X.prog X.w X.K X.mg X.base k C.b c n nN m) (he : PE X e (tE C W f)) (hb : attributeBase e n X.env (eval e X.env) = eval e X.env := by rfl) : PE X (.Attribute e n pos) (tE C W (ePrO c nN m f)) := by
  obtain ⟨T, p, g, fd, ps, hT, sc, at_, get, tk, ⟨rest, hrec⟩, F, hbn⟩ := cp.ex
  refine ⟨fun pins s σ H Q I q => attr_of hb (thn (he.run pins s σ H (fun x H1 => ∃ a dx vs, x = .ref a ∧ SlX.Slt H1 a T dx vs ∧ spM C.b 1 nN m [.ref a] H1 Q fun _ _ _ => False) I ?_) fun u s1 hh => ?_)⟩
  · obtain ⟨Y, G, ρ, E, p⟩ := q
    refine seq1 (C := C) Post.lk E p fun G1 H1 ρ1 x v s1 pl1 E1 od1 p1 => ?_
    split at p1
    · rename_i c' fs' l
      split at p1
      · rename_i hc
        subst hc
        obtain ⟨a, dx, T', vs, rfl, hT', sl, _⟩ := (look_ok E1 od1 l).obj E1.sub
        rw [B.ct.mg, hT] at hT'; cases hT'
        refine ⟨a, dx, _, rfl, sl, spM_of (W := WF) (σ := σ) (os := [x]) E1 ⟨_, [], rfl, od1, rfl⟩ ?_⟩
        cases hc : callM 1 nN m [x] ρ1 with
        | bad => rw [hc] at p1; exact p1
        | exc _ _ _ => rw [hc] at p1; exact p1.elim
        | ok o ρ3 => rw [hc] at p1; exact p1
      · exact p1.elim
    · exact p1.elim
  · obtain ⟨x, H1, I1, rx, a, dx, vs, ex, sl, q1⟩ := hh
    subst ex
    obtain rfl : u = Value.ref a := rx
    obtain ⟨sa, od, _, J, _⟩ := SlX.slt_inst I1 sl
    have I2 : Inv X pins σ H1 { s1 with toks := s1.toks + 1 } := I1.tok (s1.toks + 1)
    have bb := hbn { s1 with toks := s1.toks + 1 } [.ref a] I2.kIn (by rw [List.append_nil]; exact F.cnt [.ref a] _ _ _ q1)
    rw [List.append_nil] at bb
    refine PySem.W.get_bind I1.kIn J (PySem.W.plainGet_of (sc.get n)).1 (PySem.W.findObj_data sc.ic at_ get tk) (PySem.W.plainGet_of (sc.get n)).2 (wpAny_call (PySem.W.prop_get (s := { s1 with toks := s1.toks + 1 }) I1.kIn hrec ?_))
    refine codeAny_mono (F.go X.A.in1 X.stack { s1 with toks := s1.toks + 1 } H1 ⟨[.ref a], []⟩ [.ref a] [.ref a] Q _ B.rm.in1 B.ct.gd I2.env0.in1 bb (.cons rfl .nil) q1) fun r s' hq => ?_
    match r, hq with
    | .error e, hq =>
      obtain ⟨_, _, _, _, _, _, _, _, _, _, _, _, z⟩ := hq
      exact z.elim
    | .ok (.ret u), hq =>
      obtain ⟨v, H', I3, rv, q⟩ := I2.after hq
      exact wpAny_of_eq (PySem.W.handedOut_of (handed_of rv)) ⟨v, H', I3, rv, q⟩
end
end DL

set_option Elab.async false
set_option linter.all false
set_option maxRecDepth 100000
set_option maxHeartbeats 1000000
/-! The data layer: len of an instance of an own class. -/
namespace DL
open PySem PySem.Spec L2
open PyProof.Rows hiding St

/-- what __len__ may answer -/
def lnOf (r : R Opd) : R Opd := match r with
  | .ok (.val (.int n)) ρ => if 0 ≤ n ∧ n < 9223372036854775808 then .ok (.val (.int n)) ρ else .bad
  | _ => .bad
def eLnO (c : Str) (nN : Nat) (m : M Fl) (f : M Opd) : M Opd := fun ρ => (nrm f ρ).bind fun x ρ1 => match look x ρ1 with
  | some (.obj c' _) => if c' = c then lnOf (callM 1 nN m [x] ρ1) else .bad
  | _ => .bad
section
variable {X : Cx} {C : Cn} {W : WX} {k : Nat} {fr : List Str} {e : Expr} {f : M Opd} {c : Str} {nN : Nat} {m : M Fl} {p pos : Pos}
def rLnO (sp : Sp) (T : Addr) : List V → Hp → VK → Prop := fun xs H Q => ∃ a dx vs, xs = [.ref a] ∧ SlX.Slt H a T dx vs ∧ sp xs H (fun v H' => ∃ n : Int, v = .int n ∧ 0 ≤ n ∧ n < 9223372036854775808 ∧ Q (.int n) H') fun _ _ _ => False
theorem call_lnO {T h : Addr} {fd : FuncData} {ps : List Str} {sp : Sp} (hr : Room (k + 1) X.A) (hgd : X.A.guards = some []) (hf : PySem.W.findIn X.K (.ref T) "__len__" = some (some (.ref h))) (hi : PySem.W.isFn X.K (.ref h) = true) (F : FnD X.prog X.w X.K X.mg X.base k h fd ps sp) (hb : Binds X.K fd ps []) : CallR X (.builtin "len") (rLnO sp T) := by
  intro pins s σ H xs us Q I r q
  obtain ⟨a, dx, vs, rfl, sl, q⟩ := q
  obtain ⟨u, rfl, ru⟩ := vals1 r
  obtain rfl : u = Value.ref a := ru
  obtain ⟨sa, od, _, ia, _⟩ := SlX.slt_inst I sl
  obtain ⟨mm, fr⟩ := I.fr
  have run := run_in1 (W := WF) (us := [.ref a]) (vs := [.ref a]) (σ := σ) (Q := fun v H' => ∃ n : Int, v = .int n ∧ 0 ≤ n ∧ n < 9223372036854775808 ∧ Q (.int n) H') F hr hgd hb TkC.none I (.cons rfl .nil) q
  refine PySem.W.len_K fr I.ok.mod.kin ia hf hi (wpAny_mono run (fun r s' z => ?_) fun _ _ z => z)
  obtain ⟨z, H', I', rz, n, rfl, n0, n1, q'⟩ := z
  obtain ⟨t, rfl⟩ := rz
  have e63 : (2 : Int) ^ 63 = 9223372036854775808 := by rfl
  exact ⟨⟨n0, by rw [e63]; exact n1⟩, .int n, H', I'.tok _, ⟨_, rfl⟩, q'⟩
theorem wLnO (B : Bd X C W (k + 1) fr) (cm : CalM X.prog X.w X.K X.mg X.base k C.b c "__len__" 1 nN m) (he : PE X e (tE C W f)) (hx : ("len" : Str) ∈ fr := by decide) (hg : Gl X "len" := by rfl) (hs : starEach (e :: []) X.env = (false, eval e X.env) :: starEach [] X.env := by rfl) (hpl : (backTo pos (starEach [] X.env)).any (·.1) = false := by rfl) :
    PE X (.Call (.Name "len" p) [e] [] pos) (tE C W (eLnO c nN m f)) := by
  obtain ⟨T, h, fd, ps, hT, h1, h2, h3, F, hbn⟩ := cm.ex
  refine PE.st (pe_callB (call_lnO B.rm B.ct.gd h1 h2 F hbn) hg (B.free _ hx) bo_len (pa_cons he pa_nil hs) (by decide) (by decide) hs hpl) fun σ H Q q => ?_
  obtain ⟨Y, G, ρ, E, p⟩ := q
  refine seq1 (C := C) Post.lk E p fun G1 H1 ρ1 x v s1 pl1 E1 od1 p1 => ?_
  split at p1
  · rename_i c' fs' l
    split at p1
    · rename_i hc
      subst hc
      obtain ⟨a, dx, T', vs, rfl, hT', sl, _⟩ := (look_ok E1 od1 l).obj E1.sub
      rw [B.ct.mg, hT] at hT'; cases hT'
      refine ⟨a, dx, _, rfl, sl, spM_of (W := WF) (σ := σ) (os := [x]) E1 ⟨_, [], rfl, od1, rfl⟩ ?_⟩
      cases hc : callM 1 nN m [x] ρ1 with
      | bad => rw [hc] at p1; exact p1
      | exc _ _ _ => rw [hc] at p1; exact p1.elim
      | ok o ρ3 =>
        rw [hc] at p1
        unfold lnOf at p1
        split at p1
        · rename_i n ρ4 he
          cases he
          split at p1
          · rename_i hb
            intro G3 H3 z s3 E3 od3
            have od3' : den C.b G3 (.int n) z := od3
            unfold den at od3'
            exact ⟨n, od3', hb.1, hb.2, p1 G3 H3 _ s3 E3 (by unfold OD den; rfl)⟩
          · exact p1.elim
        · exact p1.elim
    · exact p1.elim
  · exact p1.elim
end
end DL

set_option Elab.async false
set_option linter.all false
set_option maxRecDepth 100000
set_option maxHeartbeats 1000000
/-! The data layer: cells that nobody reaches are written, then frozen (for the making of an instance). -/
namespace DL
open PySem PySem.Spec L2
open PyProof.Rows hiding St

/-- nothing of the state stands at p -/
structure Lone (C : Cn) (Y : Gr) (G : Hp) (σ : St) (ρ : DEnv) (p : Addr) : Prop where
  g : G p = none
  h0 : Y.H0 p = none
  nr : ∀ (i : Nat) (e : D), ρ[i]? = some (some (true, e)) → σ[i]? ≠ some (some (.ref p))
  nt : p ∉ Y.T.map (·.1)
theorem tabs_put {T : List (Addr × Str)} {H : Hp} {p : Addr} {o o' : HO} (t : LamX.Tabs T H) (nt : p ∉ T.map (·.1)) (h : H p = some o) (n : ∀ c q, o ≠ LamX.CodeO c q) : LamX.Tabs T (upd H p o') := fun x hx => by
  obtain ⟨ps, h1, h2, h3⟩ := t x hx
  have ne : x.1 ≠ p := fun z => nt (List.mem_map.mpr ⟨x, hx, z⟩)
  refine ⟨ps, by rw [upd_ne ne]; exact h1, h2, fun pos cv hc => ?_⟩
  obtain ⟨c, e1, e2⟩ := h3 pos cv hc
  have nc : c ≠ p := fun z => by rw [z, h] at e2; cases e2; exact n _ _ rfl
  exact ⟨c, e1, by rw [upd_ne nc]; exact e2⟩
section
variable {C : Cn} {Y : Gr} {G : Hp} {σ : St} {H : Hp} {ρ : DEnv} {p q : Addr} {o : HO}
theorem ED.lone (E : ED C Y G σ H ρ) (h : H p = none) : Lone C Y G σ ρ p := by
  refine ⟨E.gn h, E.h0 h, fun i e h1 h2 => ?_, tabs_none E.tb.2 h⟩
  obtain ⟨r, r1, _, r3, _⟩ := E.own i e h1
  rw [h2] at r1; cases r1
  obtain ⟨u, hu⟩ := r3.some
  rw [h] at hu; cases hu
theorem ED.poke (E : ED C Y G σ H ρ) (l : Lone C Y G σ ρ p) {o' : HO} (hp : H p = some o') (hq : ∀ c q, o' ≠ LamX.CodeO c q) : ED C Y G σ (upd H p o) ρ := by
  refine ⟨fun a u e => ?_, E.frz, fun i d e => ?_, E.ap, E.len, E.bor, fun a u e hb ht => ?_, E.fz, E.g0, ⟨E.tb.1, tabs_put E.tb.2 l.nt hp hq⟩, E.gt⟩
  · have : a ≠ p := fun z => by rw [z, l.g] at e; cases e
    rw [upd_ne this]; exact E.sub a u e
  · obtain ⟨r, r1, r2, r3, r4⟩ := E.own i d e
    have hr : r ≠ p := fun z => l.nr i d e (z ▸ r1)
    exact ⟨r, r1, r2, r3.mono Sub.rfl (upd_ne hr), r4⟩
  · have : a ≠ p := fun z => by rw [z, l.h0] at e; cases e
    rw [upd_ne this]; exact E.old a u e hb ht
theorem ED.freezeAt (E : ED C Y G σ H ρ) (l : Lone C Y G σ ρ p) (hp : H p = some o) : Sub G (upd G p o) ∧ ED C Y (upd G p o) σ H ρ := by
  have sg : Sub G (upd G p o) := Sub.new l.g
  refine ⟨sg, fun a u e => ?_, fun i d e => ?_, fun i d e => ?_, E.ap, E.len, fun i r hb => ?_, E.old, fun a u e => ?_, E.g0.trans sg, E.tb, gt_upd E.gt l.nt⟩
  · by_cases ha : a = p
    · subst ha; rw [upd_same] at e; cases e; exact hp
    · rw [upd_ne ha] at e; exact E.sub a u e
  · obtain ⟨v, v1, v2⟩ := E.frz i d e
    exact ⟨v, v1, den.mono sg _ _ v2⟩
  · obtain ⟨r, r1, r2, r3, r4⟩ := E.own i d e
    have hr : r ≠ p := fun z => l.nr i d e (z ▸ r1)
    exact ⟨r, r1, by rw [upd_ne hr]; exact r2, r3.mono sg rfl, r4⟩
  · obtain ⟨h1, hn, b, d, h2, hc, h3⟩ := E.bor i r hb
    refine ⟨h1, hn, b, d, h2, hc, ?_⟩
    rcases h3 with h3 | ⟨u, h3⟩
    · exact .inl h3
    · exact .inr ⟨u, sg _ _ h3⟩
  · by_cases ha : a = p
    · subst ha; exact .inl l.h0
    · rw [upd_ne ha] at e; exact E.fz a u e
theorem Lone.frozen (l : Lone C Y G σ ρ q) (h : q ≠ p) : Lone C Y (upd G p o) σ ρ q := ⟨by rw [upd_ne h]; exact l.g, l.h0, l.nr, l.nt⟩
end
end DL

set_option Elab.async false
set_option linter.all false
set_option maxRecDepth 100000
set_option maxHeartbeats 1000000
/-! The data layer: instances of own slotted classes are made. -/
namespace DL
open PySem PySem.Spec L2
open PyProof.Rows hiding St

/-- the slots while an instance is made -/
abbrev FS := List (Option D)
def putD (i : Nat) (d : D) (fs : FS) : FS := (fs ++ List.replicate (i + 1 - fs.length) Option.none).set i (some d)
def denO (C : Cb) (G : Hp) : FS → List (Option V) → Prop
  | [], vs => vs = []
  | Option.none :: fs, vs => ∃ r, vs = Option.none :: r ∧ denO C G fs r
  | some d :: fs, vs => ∃ v r, vs = some v :: r ∧ den C G d v ∧ denO C G fs r
def fullD : FS → Option (List D)
  | [] => some []
  | Option.none :: _ => Option.none
  | some d :: r => (fullD r).map (d :: ·)
section
variable {C : Cb} {G G' : Hp}
theorem denO.mono (s : Sub G G') : ∀ {fs : FS} {vs : List (Option V)}, denO C G fs vs → denO C G' fs vs
  | [], vs, h => h
  | Option.none :: fs, vs, ⟨r, e, h⟩ => ⟨r, e, denO.mono s h⟩
  | some d :: fs, vs, ⟨v, r, e, h1, h2⟩ => ⟨v, r, e, den.mono s _ _ h1, denO.mono s h2⟩
theorem denO.len : ∀ {fs : FS} {vs : List (Option V)}, denO C G fs vs → fs.length = vs.length
  | [], vs, h => by cases h; rfl
  | Option.none :: fs, vs, ⟨r, e, h⟩ => by subst e; simp [denO.len h]
  | some d :: fs, vs, ⟨v, r, e, h1, h2⟩ => by subst e; simp [denO.len h2]
theorem denO.rep (n : Nat) : denO C G (List.replicate n Option.none) (List.replicate n Option.none) := by
  induction n with
  | zero => rfl
  | succ n ih => exact ⟨_, rfl, ih⟩
theorem denO.app (n : Nat) : ∀ {fs : FS} {vs : List (Option V)}, denO C G fs vs → denO C G (fs ++ List.replicate n Option.none) (vs ++ List.replicate n Option.none)
  | [], vs, h => by cases h; exact denO.rep n
  | Option.none :: fs, vs, ⟨r, e, h⟩ => by subst e; exact ⟨_, rfl, denO.app n h⟩
  | some d :: fs, vs, ⟨v, r, e, h1, h2⟩ => by subst e; exact ⟨_, _, rfl, h1, denO.app n h2⟩
theorem denO.set {d : D} {v : V} (hd : den C G d v) : ∀ {fs : FS} {vs : List (Option V)} (i : Nat), denO C G fs vs → denO C G (fs.set i (some d)) (vs.set i (some v))
  | [], vs, i, h => by cases h; exact rfl
  | Option.none :: fs, vs, 0, ⟨r, e, h⟩ => by subst e; exact ⟨_, _, rfl, hd, h⟩
  | some d :: fs, vs, 0, ⟨v, r, e, h1, h2⟩ => by subst e; exact ⟨_, _, rfl, hd, h2⟩
  | Option.none :: fs, vs, i + 1, ⟨r, e, h⟩ => by subst e; exact ⟨_, rfl, denO.set hd i h⟩
  | some d :: fs, vs, i + 1, ⟨v, r, e, h1, h2⟩ => by subst e; exact ⟨_, _, rfl, h1, denO.set hd i h2⟩
theorem denO.put {d : D} {v : V} {fs : FS} {vs : List (Option V)} (i : Nat) (h : denO C G fs vs) (hd : den C G d v) : denO C G (putD i d fs) (SlX.putS i v vs) := by
  unfold putD SlX.putS
  rw [← h.len]
  exact denO.set hd i (denO.app _ h)
theorem denO.full : ∀ {fs : FS} {ds : List D} {vs : List (Option V)}, fullD fs = some ds → denO C G fs vs → ∃ ws, vs = ws.map some ∧ denL C G ds ws
  | [], ds, vs, e, h => by cases e; cases h; exact ⟨[], rfl, by unfold denL; rfl⟩
  | Option.none :: fs, ds, vs, e, h => by cases e
  | some d :: fs, ds, vs, e, h => by
    obtain ⟨v, r, rfl, h1, h2⟩ := h
    unfold fullD at e
    cases q : fullD fs with
    | none => rw [q] at e; cases e
    | some ds' =>
      rw [q] at e
      cases e
      obtain ⟨ws, rfl, h3⟩ := denO.full q h2
      exact ⟨v :: ws, rfl, by unfold denL; exact ⟨_, _, rfl, h1, h3⟩⟩
end

/-! ### the body of an __init__ -/
inductive Ini where
  | nil
  | set (i : Nat) (f : M Opd) (r : Ini)
  | chk (t : M Bool) (s : M Fl) (r : Ini)
def runI : Ini → FS → M FS
  | .nil, fs => fun ρ => .ok fs ρ
  | .set i f r, fs => fun ρ => (f ρ).bind fun o ρ1 => match takeO o ρ1 with
    | some (d, ρ2) => runI r (putD i d fs) ρ2
    | Option.none => .bad
  | .chk t s r, fs => fun ρ => (t ρ).bind fun b ρ1 => if b then (match s ρ1 with
    | .exc c d ρ2 => .exc c d ρ2
    | _ => .bad) else runI r fs ρ1
def PostIn (C : Cn) (W : WX) (N : Ends) (Y : Gr) (G : Hp) (σ : St) (a dx T : Addr) : R FS → Prop
  | .ok fs ρ => ∀ G' H vs, Sub G G' → ED C Y G' σ H ρ → Lone C Y G' σ ρ a → Lone C Y G' σ ρ dx → SlX.Slt H a T dx vs → (∃ od, H dx = some od ∧ Quiet od) → denO C.b G' fs vs → N.nx σ H
  | .exc c d ρ => ∀ T dx G' σ' H, C.b.mg c = some (.ref T) → Sub G G' → ED C Y G' σ' H ρ → XD C.b Y G' H dx d → W (.ref T) (some dx) σ' H
  | .bad => False
theorem PostIn.mono {C : Cn} {W : WX} {N : Ends} {Y : Gr} {G G' : Hp} {σ : St} {a dx T : Addr} (h : Sub G G') : ∀ {r : R FS}, PostIn C W N Y G σ a dx T r → PostIn C W N Y G' σ a dx T r
  | .ok fs ρ, p => fun G2 H vs s => p G2 H vs (h.trans s)
  | .exc c d ρ, p => fun T dx G2 σ' H hc s => p T dx G2 σ' H hc (h.trans s)
  | .bad, p => p
def tIni (C : Cn) (W : WX) (c : Str) (ini : Ini) : TS := fun N σ H => ∃ Y G ρ a dx T vs fs, C.b.mg c = some (.ref T) ∧ ED C Y G σ H ρ ∧ Lone C Y G σ ρ a ∧ Lone C Y G σ ρ dx ∧ dx ≠ a ∧ SlX.Slt H a T dx vs ∧ (∃ od, H dx = some od ∧ Quiet od) ∧ denO C.b G fs vs ∧ σ[0]? = some (some (.ref a)) ∧
  PostIn C W N Y G σ a dx T (runI ini fs ρ)

/-- an instance is no code object -/
theorem slO_code {a C dx c : Addr} {vs : List (Option V)} {q : Str} : SlX.SlO a C dx vs ≠ LamX.CodeO c q := fun z => by
  unfold SlX.SlO LamX.CodeO at z
  injection z with z
  let t : Tok := default
  let o : Obj := { cls := .none, data := .fields #[.none, .str q t] }
  let h : Heap := { objs := Array.replicate (c + 1) o }
  have ge : ∀ b u, h.get? b = some u → u = o := fun b u e => by
    have : h.objs[b]? = some o ∨ h.objs[b]? = none := by
      show (Array.replicate (c + 1) o)[b]? = _ ∨ (Array.replicate (c + 1) o)[b]? = _
      rw [Array.getElem?_replicate]
      split
      · exact .inl rfl
      · exact .inr rfl
    unfold Heap.get? at e
    rcases this with q | q <;> rw [q] at e <;> cases e
    rfl
  have hc : h.get? c = some o := by
    have : h.objs[c]? = some o := by
      show (Array.replicate (c + 1) o)[c]? = _
      rw [Array.getElem?_replicate, if_pos (Nat.lt_succ_self c)]
    unfold Heap.get?
    rw [this]
  have := congrFun z h
  have p : ∃ (oc : Obj) (vs : Array Value) (t : Tok), h.get? c = some oc ∧ oc.data = .fields vs ∧ vs[1]? = some (.str q t) := ⟨o, _, t, hc, rfl, rfl⟩
  obtain ⟨sl, e, _⟩ := this.mpr p
  have e2 := congrArg Obj.data (ge _ _ e)
  cases e2
theorem slt_at' {H : Hp} {a T dx : Addr} {vs : List (Option V)} (s : SlX.Slt H a T dx vs) : ∃ oa, H a = some oa ∧ ∀ c q, oa ≠ LamX.CodeO c q := by
  rcases s with ⟨h1, h2⟩ | ⟨h1, h2⟩
  · exact ⟨_, h1, quiet_ins.2⟩
  · exact ⟨_, h1, fun c q => slO_code⟩
section
variable {C : Cn} {Y : Gr} {G : Hp} {σ : St} {H : Hp} {ρ : DEnv} {a dx : Addr} {oa od : HO}
/-- both cells are held -/
theorem ED.hold2 (E : ED C Y G σ H ρ) (la : Lone C Y G σ ρ a) (ld : Lone C Y G σ ρ dx) (ne : dx ≠ a) (ha : H a = some oa) (hd : H dx = some od) : ED C ((Y.prot a oa).prot dx od) G σ H ρ ∧ Off Y a ∧ Off (Y.prot a oa) dx := by
  have E1 := E.hold la.g ha la.nr
  have fa := E.offO la.g la.h0 la.nr la.nt
  have fd : Off (Y.prot a oa) dx := E1.offO ld.g (by show upd Y.H0 a oa dx = none; rw [upd_ne ne]; exact ld.h0) ld.nr ld.nt
  exact ⟨E1.hold ld.g hd ld.nr, fa, fd⟩
theorem ED.free2 (E : ED C ((Y.prot a oa).prot dx od) G σ H ρ) (fa : Off Y a) (fd : Off (Y.prot a oa) dx) (ne : dx ≠ a) : ED C Y G σ H ρ ∧ H a = some oa ∧ H dx = some od ∧ Lone C Y G σ ρ a ∧ Lone C Y G σ ρ dx := by
  obtain ⟨c1, c2, c3⟩ := E.cell fd
  have E1 := E.unprot fd
  obtain ⟨d1, d2, d3⟩ := E1.cell fa
  refine ⟨E1.unprot fa, d1, c1, ⟨d2, fa.h0, d3, fa.t⟩, ⟨c2, ?_, c3, fd.t⟩⟩
  have := fd.h0
  have h : upd Y.H0 a oa dx = none := this
  rwa [upd_ne ne] at h
end
section
variable {X : Cx} {C : Cn} {W : WX} {c : Str} {ini : Ini} {rest : List Stmt}
theorem ini_nil : PSs X [] (tIni C W c .nil) := PSs.st pss_nil fun N σ H h => by
  obtain ⟨Y, G, ρ, a, dx, T, vs, fs, hT, E, la, ld, ne, sl, hd, dn, h0, p⟩ := h
  exact p G H vs Sub.rfl E la ld sl hd dn
theorem ini_set {f x0 : Str} {i : Nat} {g : M Opd} {e : Expr} {p0 pos pos' : Pos} (hb : C.b.mg = X.mg) (S : SloC X.K X.mg c f i) (he : PE X e (tE C W g)) (hr : PSs X rest (tIni C W c ini)) (hN : X.N[0]? = some x0 := by rfl) (hv : Vis X.env.scope x0 := by first | exact Or.inl rfl | exact Or.inr (Or.inl rfl) | exact Or.inr (Or.inr rfl)) (hd : (x0 == ("__debug__" : Str)) = false := by decide)
    (hcd : (x0 == ("__classdict__" : Str)) = false := by decide) (hs : swapsWith e (some (.Attribute (.Name x0 p0) f pos')) pos.line X.env = pure false := by rfl) :
    PSs X (.Assign [.Attribute (.Name x0 p0) f pos'] e pos :: rest) (tIni C W c (.set i g ini)) :=
  PSs.st (pss_cons (SlX.ps_sl (pe_var hN hv hd hcd) he hs) hr) fun N σ H h => by
    obtain ⟨Y, G, ρ, a, dx, T, vs, fs, hT, E, la, ld, ne, sl, ⟨od, hod, hqd⟩, dn, h0, p⟩ := h
    obtain ⟨oa, hoa, hqa⟩ := slt_at' sl
    obtain ⟨E2, fa, fd⟩ := E.hold2 la ld ne hoa hod
    refine ⟨_, G, ρ, E2, ?_⟩
    unfold runI at p
    cases hg : g ρ with
    | bad => rw [hg] at p; exact p.elim
    | exc c' d ρ' =>
      rw [hg] at p
      exact fun T dx G' H' hc s E' x => p T dx G' σ H' hc s ((E'.unprot fd).unprot fa) x.unprot.unprot
    | ok o ρ1 =>
      rw [hg, R.bind_ok] at p
      intro G2 H2 w s2 E3 od3
      cases ht : takeO o ρ1 with
      | none => rw [ht] at p; exact p.elim
      | some z =>
        obtain ⟨d, ρ2⟩ := z
        rw [ht] at p
        dsimp only at p
        obtain ⟨G3, s3, E4, dw⟩ := takeO_ok E3 od3 ht
        obtain ⟨E5, ha5, hd5, la5, ld5⟩ := E4.free2 fa fd ne
        obtain ⟨T', p', hm, sc, st⟩ := S
        rw [hb, hm] at hT
        have hTT : T' = T := by cases hT; rfl
        subst hTT
        have sl2 : SlX.Slt H2 a T' dx vs := by
          rcases sl with ⟨h1, h2⟩ | ⟨h1, h2⟩
          · rw [hoa] at h1; exact .inl ⟨ha5.trans h1, h2⟩
          · rw [hoa] at h1; rw [hod] at h2; exact .inr ⟨ha5.trans h1, hd5.trans h2⟩
        have sg : Sub G G3 := s2.trans s3
        refine ⟨.ref a, h0, a, T', dx, p', vs, i, rfl, sl2, sc, st, Y, G3, ρ2, a, dx, T', SlX.putS i w vs, putD i d fs, by rw [hb]; exact hm, ?_, la5, ld5, ne, SlX.slH_slt ne, ⟨.xd [], ?_, quiet_xd⟩, denO.put i (dn.mono sg) dw, h0, PostIn.mono sg p⟩
        · unfold SlX.slH
          have E6 := E5.poke (o := .xd []) ld5 hd5 hqd.2
          exact E6.poke la5 (o' := oa) (by rw [upd_ne (Ne.symm ne)]; exact ha5) hqa
        · unfold SlX.slH; rw [upd_ne ne, upd_same]
theorem ini_chk {t : M Bool} {s : M Fl} {e : Expr} {st : Stmt} {pos : Pos} (he : PT X e (tT C W t)) (hs : PSs X [st] (tS C W s)) (hr : PSs X rest (tIni C W c ini)) :
    PSs X (.If e [st] [] pos :: rest) (tIni C W c (.chk t s ini)) :=
  PSs.st (pss_cons (ps_if he hs pss_nil) hr) fun N σ H h => by
    obtain ⟨Y, G, ρ, a, dx, T, vs, fs, hT, E, la, ld, ne, sl, ⟨od, hod, hqd⟩, dn, h0, p⟩ := h
    obtain ⟨oa, hoa, hqa⟩ := slt_at' sl
    obtain ⟨E2, fa, fd⟩ := E.hold2 la ld ne hoa hod
    refine ⟨_, G, ρ, E2, ?_⟩
    unfold runI at p
    cases hg : t ρ with
    | bad => rw [hg] at p; exact p.elim
    | exc c' d ρ' =>
      rw [hg] at p
      exact fun T dx G' H' hc s E' x => p T dx G' σ H' hc s ((E'.unprot fd).unprot fa) x.unprot.unprot
    | ok b ρ1 =>
      rw [hg, R.bind_ok] at p
      intro G2 H2 s2 E3
      cases b with
      | true =>
        rw [if_pos rfl] at p ⊢
        refine ⟨_, G2, ρ1, E3, ?_⟩
        cases hs : s ρ1 with
        | bad => rw [hs] at p; exact p.elim
        | exc c' d ρ' =>
          rw [hs] at p
          exact fun T dx G' σ' H' hc s E' x => p T dx G' σ' H' hc (s2.trans s) ((E'.unprot fd).unprot fa) x.unprot.unprot
        | ok fl ρ' => rw [hs] at p; exact p.elim
      | false =>
        rw [if_neg (by simp)] at p ⊢
        obtain ⟨E5, ha5, hd5, la5, ld5⟩ := E3.free2 fa fd ne
        have sl2 : SlX.Slt H2 a T dx vs := by
          rcases sl with ⟨h1, h2⟩ | ⟨h1, h2⟩
          · rw [hoa] at h1; exact .inl ⟨ha5.trans h1, h2⟩
          · rw [hoa] at h1; rw [hod] at h2; exact .inr ⟨ha5.trans h1, hd5.trans h2⟩
        exact ⟨Y, G2, ρ1, a, dx, T, vs, fs, hT, E5, la5, ld5, ne, sl2, ⟨od, hd5, hqd⟩, dn.mono s2, h0, PostIn.mono s2 p⟩
end

/-! ### the promise of an __init__ -/
def allFz : DEnv → Bool
  | [] => true
  | some (false, _) :: r => allFz r
  | _ => false
theorem allFz_get : ∀ {ρ : DEnv}, allFz ρ = true → ∀ {i : Nat} {x : Slot}, ρ[i]? = some x → ∃ d, x = some (false, d)
  | [], h, i, x, e => by simp at e
  | some (false, d) :: r, h, 0, x, e => by simp at e; exact ⟨d, e.symm⟩
  | some (false, d) :: r, h, i + 1, x, e => allFz_get (ρ := r) h (by simpa using e)
  | some (true, d) :: r, h, i, x, e => by cases h
  | none :: r, h, i, x, e => by cases h
theorem borA_none {ρ : DEnv} {vs : List V} (h : ∀ (m : Nat) (d : D), ρ[m]? ≠ some (some (true, d))) (k : Nat) : borA ρ vs k = [] := by
  refine List.eq_nil_iff_forall_not_mem.mpr fun ⟨j, p⟩ hj => ?_
  obtain ⟨m, d, _, h1, _⟩ := borA_mem.mp hj
  exact h m d h1
theorem allFz_no {ρ : DEnv} (h : allFz ρ = true) (m : Nat) (d : D) : ρ[m]? ≠ some (some (true, d)) := fun e => by
  obtain ⟨d', z⟩ := allFz_get h e
  cases z
def spI (b : Cb) (c : Str) (np nN : Nat) (ini : Ini) : Sp := fun vs H Q E => vs.length = np ∧ ∃ a us dx T Hb G ρa, vs = .ref a :: us ∧ b.mg c = some (.ref T) ∧ dx ≠ a ∧ H = upd (upd Hb dx (.own a)) a (.ins T dx []) ∧ Hb a = none ∧ Hb dx = none ∧
  ArgD b G Hb us ρa ∧ allFz ρa = true ∧ ∀ σ, PostIn ⟨b, np⟩ (fun T dx _ H' => E T dx H') { nx := fun _ H' => Q .non H', rt := Q } ⟨Hb, G, [], b.T⟩ G σ a dx T (runI ini [] (startD nN (none :: ρa)))
theorem fnI_of {P : Program} {w : World} {K : PySem.W.Frag} {mg : Str → Option Value} {base : Heap} {k : Nat} {f : Addr} {name qual : Str} {params : Arguments} {body : List Stmt} {scope : Scope} {fd : FuncData} {dvs : List V} {kws : List (Str × V)}
    {N ps : List Str} {b : Cb} {c : Str} {ini : Ini} (F : FunD K name qual params body scope dvs kws f fd) (S : FnScope N ps scope)
    (hbody : ∀ (cdv : Value) (A : Around) (outer : List Env) (s : Shared) (H : Hp) (E : XK), Room k (A.deeper (envOfC qual scope s.heap.objs.size f cdv)) → A.guards = some [] →
      PSs (cxOf (CX P w) P w K mg base N qual scope f cdv A outer s H E) body (tIni ⟨b, ps.length⟩ (fun T dx _ H' => E T dx H') c ini)) :
    FnD P w K mg base (k + 1) f fd ps (spI b c ps.length N.length ini) := by
  obtain ⟨oc, od, dV, kV, doc, pm, an, cdv, ct, osl, rfl, lk, hcd, _, _⟩ := F.ex
  refine fnD_of lk hcd S (fun vs H Q E h => h.1) fun A outer s H vs Q E hr hgd hsp => ?_
  obtain ⟨hl, a, us, dx, T, Hb, G, ρa, rfl, hT, ne, rfl, ha, hd, ag, hf, p⟩ := hsp
  refine ⟨_, hbody cdv A outer s _ E hr hgd, ?_⟩
  have no : ∀ (m : Nat) (d : D), (none :: ρa : DEnv)[m]? ≠ some (some (true, d)) := fun m d => by
    cases m with
    | zero => simp
    | succ m => simpa using allFz_no hf m d
  have A2 : ArgD b G Hb (V.ref a :: us) (none :: ρa) := by
    refine ⟨ag.sub, ag.tb, ag.gt, by simp [ag.len], fun j d h => ?_, fun j d h => ?_, fun i j d e p hij h1 => ?_⟩
    · cases j with
      | zero => simp at h
      | succ j => exact ag.frz j d (by simpa using h)
    · exact absurd h (no j d)
    · exact absurd h1 (no i d)
  have E0 := A2.start N
  rw [hl] at E0
  have eY : grA b.T G Hb (V.ref a :: us) (none :: ρa) = ⟨Hb, G, [], b.T⟩ := by unfold grA; rw [borA_none no]
  rw [eY] at E0
  have la := E0.lone ha
  have ld := E0.lone hd
  have E1 := E0.laid (o := .own a) hd
  have E2 := E1.laid (p := a) (o := .ins T dx []) (by rw [upd_ne (Ne.symm ne)]; exact ha)
  exact ⟨_, G, _, a, dx, T, [], [], hT, E2, la, ld, ne, .inl ⟨upd_same, rfl⟩, ⟨.own a, by rw [upd_ne ne, upd_same], quiet_own⟩, rfl, start_get rfl, p _⟩

/-! ### C(..) -/
theorem run_mkD {X : Cx} {W : WX} {k : Nat} {f T : Addr} {fd : FuncData} {ps : List Str} {sp : Sp} {ds : List Value} {dvs : List V} {pins : List (Addr × Obj)} {σ : St} {H : Hp} {s : Shared} {Q : VK} {us : List Value} {vs : List V} (M : Mk X.K T f) (F : FnD X.prog X.w X.K X.mg X.base k f fd ps sp) (hr : Room (k + 1) X.A) (hgd : X.A.guards = some []) (hb : Binds X.K fd ps ds) (hd : Vals dvs ds)
    (tk : TkC X W) (I : Inv X pins σ H s) (r : Vals vs us)
    (h : ∀ x dx, H x = none → H dx = none → dx ≠ x → sp (.ref x :: (vs ++ dvs)) (upd (upd H dx (.own x)) x (.ins T dx [])) (fun v H2 => v = .non ∧ Q (.ref x) H2) fun c d H' => W c d σ H') :
    wpAny (model X.prog X.w) X.A (call (.ref T) us) (EP X pins σ Q) X.xe s := by
  have hq := h (s.heap.objs.size + 1) s.heap.objs.size (I.hok.fresh (Nat.le_succ _)) (I.hok.fresh (Nat.le_refl _)) (Nat.ne_of_lt (Nat.lt_succ_self _))
  have I2 := Inv.made (C := T) I
  have r2 : Vals (V.ref (s.heap.objs.size + 1) :: (vs ++ dvs)) (Value.ref (s.heap.objs.size + 1) :: (us ++ ds)) := .cons rfl (r.append hd)
  have hl : (Value.ref (s.heap.objs.size + 1) :: us ++ ds).length = ps.length := by
    have e := r2.length
    rw [F.cnt _ _ _ _ hq] at e
    exact e.symm
  refine wpAny_call (make_map (f := f) I.kIn M.makes M.init (beq_iff_eq.mp M.fn) (codeAny_mono (F.go _ X.stack _ _ ⟨Value.ref (s.heap.objs.size + 1) :: us, []⟩ (Value.ref (s.heap.objs.size + 1) :: (us ++ ds)) _ _ _ (hr.make T us [])
    (by first | exact hgd | (simpa [Around.under, Code.guards] using hgd)) (I2.env0.make T us []) (hb _ (Value.ref (s.heap.objs.size + 1) :: us) I2.kIn hl) r2 hq) fun r s' hq' => ?_))
  cases r with
  | error e => exact tk pins σ _ _ e s' I2 hq'
  | ok fl =>
    cases fl with
    | ret u =>
      obtain ⟨v, H', I3, rv, ev, q3⟩ := I2.after hq'
      subst ev
      exact ⟨rv, ⟨V.ref (s.heap.objs.size + 1), H', I3, rfl, q3⟩⟩
    | next => exact False.elim hq'
    | brk => exact False.elim hq'
    | cont => exact False.elim hq'
/-- the class c can be made; cs: what the last parameters' defaults are -/
structure CalI (P : Program) (w : World) (K : PySem.W.Frag) (mg : Str → Option Value) (base : Heap) (k : Nat) (b : Cb) (c : Str) (np nN : Nat) (ini : Ini) (cs : List D) : Prop where
  ex : ∃ T f fd ps ds dvs, mg c = some (.ref T) ∧ Mk K T f ∧ FnD P w K mg base k f fd ps (spI b c np nN ini) ∧ Binds K fd ps ds ∧ Vals dvs ds ∧ ∀ G, denL b G cs dvs
def eMk (c : Str) (np nN : Nat) (ini : Ini) (fs : List (M Opd)) (cs : List D) : M Opd := fun ρ => (eA fs ρ).bind fun os ρ1 => match argsS (os ++ cs.map .val) ρ1 with
  | some ρa => if os.length + cs.length + 1 = np ∧ allFz ρa = true then (match runI ini [] (startD nN (none :: ρa)) with
    | .ok (x :: r) _ => (match fullD (x :: r) with
      | some ds => .ok (.val (.obj c ds)) ρ1
      | none => .bad)
    | .exc c d _ => .exc c d ρ1
    | _ => .bad) else .bad
  | none => .bad
theorem allOD_cs {C : Cn} {Y : Gr} {G : Hp} {σ : St} {H : Hp} {ρ : DEnv} {cs : List D} {dvs : List V} (hd : denL C.b G cs dvs) : ∀ {os : List Opd} {vs : List V}, allOD C Y G σ H ρ os vs → allOD C Y G σ H ρ (os ++ cs.map .val) (vs ++ dvs)
  | [], vs, h => by
    cases h
    rw [List.nil_append, List.nil_append]
    induction cs generalizing dvs with
    | nil => unfold denL at hd; subst hd; rfl
    | cons d ds ih =>
      unfold denL at hd
      obtain ⟨v, r, rfl, h1, h2⟩ := hd
      exact ⟨v, r, rfl, h1, ih h2⟩
  | o :: os, vs, ⟨v, r, e, h1, h2⟩ => by subst e; exact ⟨v, _, rfl, h1, allOD_cs hd h2⟩
theorem backD_allF {ρ ρ' ρa : DEnv} : ∀ {os : List Opd} {k : Nat}, argsS os ρ = some ρa → allFz ρa = true → backD ρ ρ' os k = ρ
  | [], k, _, _ => rfl
  | o :: os, k, h, hf => by
    unfold argsS at h
    cases h1 : argS o ρ with
    | none => rw [h1] at h; cases h
    | some x =>
      cases h2 : argsS os ρ with
      | none => rw [h1, h2] at h; cases h
      | some r =>
        rw [h1, h2] at h
        cases h
        obtain ⟨d, rfl⟩ := allFz_get hf (i := 0) rfl
        have hf' : allFz r = true := hf
        have ho : ownIx o ρ = none := by
          cases e : ownIx o ρ with
          | none => rfl
          | some i =>
            obtain ⟨rfl, d', hd⟩ := ownIx_some e
            unfold argS at h1
            dsimp only at h1
            rw [hd] at h1
            cases h1
        unfold backD
        rw [ho]
        exact backD_allF h2 hf'
theorem apart_allF {ρ ρa : DEnv} : ∀ {os : List Opd}, argsS os ρ = some ρa → allFz ρa = true → apart os ρ = true
  | [], _, _ => rfl
  | o :: os, h, hf => by
    unfold argsS at h
    cases h1 : argS o ρ with
    | none => rw [h1] at h; cases h
    | some x =>
      cases h2 : argsS os ρ with
      | none => rw [h1, h2] at h; cases h
      | some r =>
        rw [h1, h2] at h
        cases h
        obtain ⟨d, rfl⟩ := allFz_get hf (i := 0) rfl
        have ho : ownIx o ρ = none := by
          cases e : ownIx o ρ with
          | none => rfl
          | some i =>
            obtain ⟨rfl, d', hd⟩ := ownIx_some e
            unfold argS at h1
            dsimp only at h1
            rw [hd] at h1
            cases h1
        unfold apart
        rw [ho]
        exact apart_allF (os := os) h2 hf
section
variable {X : Cx} {C : Cn} {W : WX} {k : Nat} {fr : List Str} {e : Expr} {es : List Expr} {c : Str} {np nN : Nat} {ini : Ini} {fs : List (M Opd)} {cs : List D} {p pos : Pos}
theorem wMk (B : Bd X C W (k + 1) fr) (ci : CalI X.prog X.w X.K X.mg X.base k C.b c np nN ini cs) (ha : PA X (e :: es) (tA C W (eA fs))) (hg : Gl X c := by rfl) (hdb : (c == ("__debug__" : Str)) = false := by decide) (he : starEach (e :: es) X.env = (false, eval e X.env) :: starEach es X.env := by rfl) (hpl : (backTo pos (starEach es X.env)).any (·.1) = false := by rfl) :
    PE X (.Call (.Name c p) (e :: es) [] pos) (tE C W (eMk c np nN ini fs cs)) := by
  obtain ⟨T, f, fd, ps, ds, dvs, hT, M, F, hb, hv, hcs⟩ := ci.ex
  refine ⟨fun pins s σ H Q I q => wpAny_Call_Name_kw (ld_glob I hg hT (PySem.W.callWith_K (h₀ := X.base) I.ok.mod.kin M.kp (thn (ha.run pos pins s σ H (fun vs H1 => ∀ x dx, H1 x = none → H1 dx = none → dx ≠ x → spI C.b c np nN ini (.ref x :: (vs ++ dvs)) (upd (upd H1 dx (.own x)) x (.ins T dx [])) (fun v H2 => v = .non ∧ Q (.ref x) H2) fun c d H' => W c d σ H') I ?_) fun us s1 ⟨vs, H1, I1, r, q⟩ => ⟨I1.kIn, run_mkD M F B.rm B.ct.gd hb hv B.tk I1 r q⟩) he hpl) hdb)⟩
  obtain ⟨Y, G, ρ, E, q⟩ := q
  refine seqAp (C := C) Post.lk E q fun G1 H1 ρ1 os vs s1 pl E1 ods p1 => ?_
  have ods' := allOD_cs (hcs G1) ods
  cases hargs : argsS (os ++ cs.map .val) ρ1 with
  | none => rw [hargs] at p1; exact p1.elim
  | some ρa =>
    rw [hargs] at p1
    dsimp only at p1
    split at p1
    · rename_i hh
      obtain ⟨hnp, hf⟩ := hh
      intro x dx hx hdx ne
      have A := args_ok E1 ods' hargs (apart_allF hargs hf)
      have no := allFz_no hf
      have eY : grA C.b.T G1 H1 (vs ++ dvs) ρa = ⟨H1, G1, [], C.b.T⟩ := by unfold grA; rw [borA_none no]
      have ln : (vs ++ dvs).length = os.length + cs.length := by rw [← ods'.len, List.length_append, List.length_map]
      refine ⟨by rw [List.length_cons, ln]; exact hnp, x, vs ++ dvs, dx, T, H1, G1, ρa, rfl, by rw [B.ct.mg]; exact hT, ne, rfl, hx, hdx, A, hf, fun σ' => ?_⟩
      have lx := E1.lone hx
      have ld := E1.lone hdx
      cases hr : runI ini [] (startD nN (none :: ρa)) with
      | bad => rw [hr] at p1; exact p1
      | exc c' d ρ' =>
        rw [hr] at p1
        intro T' dx' G' σ'' H' hc s E' xd
        have Eb := E1.back ods' hargs (C' := ⟨C.b, np⟩) rfl s (by rw [eY]; exact E')
        rw [backD_allF hargs hf] at Eb
        exact p1 T' dx' G' H' hc s Eb (xd.back E1)
      | ok fs' ρ' =>
        rw [hr] at p1
        cases fs' with
        | nil => exact p1.elim
        | cons y r =>
          dsimp only at p1
          cases hfu : fullD (y :: r) with
          | none => rw [hfu] at p1; exact p1.elim
          | some dd =>
            rw [hfu] at p1
            intro G' H' vs' s E' la' ld' sl hd' dn
            obtain ⟨ws, rfl, dl⟩ := denO.full hfu dn
            have Eb := E1.back ods' hargs (C' := ⟨C.b, np⟩) rfl s (by rw [eY]; exact E')
            rw [backD_allF hargs hf] at Eb
            have lx' : Lone C Y G' σ ρ1 x := ⟨la'.g, lx.h0, lx.nr, lx.nt⟩
            have ld' : Lone C Y G' σ ρ1 dx := ⟨ld'.g, ld.h0, ld.nr, ld.nt⟩
            have hsl : H' x = some (SlX.SlO x T dx (ws.map some)) ∧ H' dx = some (.xd []) := by
              rcases sl with ⟨h1, h2⟩ | h
              · have := dn.len
                rw [h2] at this
                cases this
              · exact h
            obtain ⟨sg1, E2⟩ := Eb.freezeAt lx' hsl.1
            obtain ⟨sg2, E3⟩ := E2.freezeAt (ld'.frozen ne) hsl.2
            refine ⟨rfl, p1 _ H' (.ref x) (s.trans (sg1.trans sg2)) E3 ?_⟩
            unfold OD den
            refine ⟨x, dx, T, ws, rfl, by rw [B.ct.mg]; exact hT, ne, ?_, upd_same, denL.mono (sg1.trans sg2) _ _ dl⟩
            rw [upd_ne (Ne.symm ne), upd_same]
    · exact p1.elim
end
end DL

set_option Elab.async false
set_option linter.all false
set_option maxRecDepth 100000
set_option maxHeartbeats 1000000
/-! The data layer: try .. except X as n, the error being held as a value from then on. -/
namespace DL
open PySem PySem.Spec L2
open PyProof.Rows hiding St

section
variable {X : Cx} {pins pn' : List (Addr × Obj)} {σ : St} {H : Hp} {sI s' : Shared} {B : Heap} {a dx T : Addr} {oe : Obj} {vs : Array Value}
theorem exH_ok {P : Program} {w : World} {H : Hp} {h : Heap} (e : h.get? a = some oe) (z : Zc (.ref T) (some dx) oe) (d : oe.data = .fields vs) : ObjOk P w H h a (ExH T dx a) :=
  ⟨⟨oe, vs, e, z.1, z.2, d⟩, ⟨oe, e⟩, fun _ _ ⟨o, v, q, r⟩ k => ⟨o, v, k o q, r⟩⟩
/-- the caught error's object stands in the heap from now on -/
theorem landedT (I : Inv X pins σ H sI) (nb : ∀ b o, sI.heap.get? b = some o → b ∉ frs X.stack → B.get? b = some o) (st : B.StaysIn s'.heap) (up : sI.heap.UpToSlots s'.heap) (os : s'.os = sI.os) (ag : AllBare s'.gens)
    (nI : sI.heap.get? a = none) (na : H a = none) (he : s'.heap.get? a = some oe) (hz : Zc (.ref T) (some dx) oe) (hd : oe.data = .fields vs) : Inv X pins σ (upd H a (ExH T dx a)) s' := by
  have nf : ∀ b ∈ frs X.stack, ∀ o, sI.heap.get? b = some o → ∃ sl, s'.heap.get? b = some { o with slots := sl } := fun b hb o e => by
    obtain ⟨_, o', e', q⟩ := I.stack.mem hb
    rw [e] at e'; cases e'
    exact up b o e q
  have ne : ∀ {b o}, sI.heap.get? b = some o → b ≠ a := fun {b o} e z => by rw [z, nI] at e; cases e
  have ok2 : HOk X.prog X.w (upd H a (ExH T dx a)) s'.heap := HOk.laidN ((I.inGround nb).kept st) (fun _ _ e => e) na (exH_ok he hz hd)
  have J := I.call (ch := []) (h' := s'.heap) (g' := s'.gens) (t' := s'.toks) (d' := s'.drawn) (H' := upd H a (ExH T dx a))
    ⟨fun b o e _ q _ => st b o (nb b o e q), fun b o e _ q _ => nf b q o e, fun b o e n _ => by rw [upd_ne (ne e)]; exact n, fun b o e _ => by
      by_cases q : b ∈ frs X.stack
      · obtain ⟨sl, z⟩ := nf b q o e; exact ⟨_, z⟩
      · exact ⟨o, st b o (nb b o e q)⟩, fun b xs e => by rw [upd_ne (ne_of_none e na)]; exact e, fun b o xs e => by rw [upd_ne (ne_of_none e na)]; exact e, fun b ps e => ⟨#[], by rw [upd_ne (ne_of_none e na), e]; simp⟩⟩
    ok2 ag (fun _ z => nomatch z)
  obtain ⟨a1, a2, a3, a4, a5⟩ := s'
  obtain rfl : a5 = sI.os := os
  exact J
theorem suite0 (I : Inv X pins σ H sI) : Inv (X.suite a (X.pn ++ pins)) [] σ H sI :=
  ⟨I.ok.suite _ _, I.os, I.bare, I.base, I.loc, I.cell, I.free, I.freeC, fun p hp => I.pin p (by rw [List.append_nil] at hp; exact hp), I.hok, I.len⟩
theorem unsuite0 (I : Inv (X.suite a (X.pn ++ pins)) pn' σ H sI) (ok : X.Ok) : Inv X pins σ H sI :=
  ⟨ok, I.os, I.bare, I.base, I.loc, I.cell, I.free, I.freeC, fun p hp => I.pin p (List.mem_append_left _ hp), I.hok, I.len⟩
end
/-- what the clause wishes of an error of the body: slot i is the name's -/
def wTr (K : PySem.W.Frag) (c : Value) (i : Nat) (ts : TS) (Wout : WX) (D : Ends) : WX := fun cls d σ H => ∃ b, PySem.W.exmOne K cls c = some b ∧
  (b = true → ∃ T dx, cls = .ref T ∧ d = some dx ∧ ∀ a, H a = none → ts { nx := fun σ' H' => D.nx (σ'.set i none) H', rt := D.rt, bk := fun σ' H' => D.bk (σ'.set i none) H', ct := fun σ' H' => D.ct (σ'.set i none) H' } (σ.set i (some (.ref a))) (upd H a (ExH T dx a))) ∧ (b = false → Wout cls d σ H)
section
variable {X : Cx} {x n : Str} {c : Value} {i : Nat} {body suite : List Stmt} {b₀ : Stmt} {np pos pos' : Pos} {tb : WX → TS} {ts : TS} {Wout : WX}
theorem ps_tryT (hs : X.stack = X.env :: X.outer) (hf : X.env.frame = some X.env.locals) (hN : X.N.Nodup) (hi : X.N[i]? = some n) (hln : X.env.kindOf n = some .local) (hc : Names X x c) (tk : Takes X Wout)
    (hb : ∀ (W : WX) (pn : List (Addr × Obj)) (xe : Value → Shared → Prop), Takes (X.tr pn xe) W → PassesOwn (model X.prog X.w) X.A X.env xe → PSs (X.tr pn xe) body (tb W))
    (hsu : ∀ (a : Addr) (pn : List (Addr × Obj)), PSs (X.suite a pn) (b₀ :: suite) ts) :
    PS X (.Try body [.ExceptHandler (some (.Name x np)) (some n) (b₀ :: suite) pos'] [] [] pos) (fun D σ H => tb (wTr X.K c i ts Wout D) D σ H) := by
  refine ⟨fun pins s σ H D I h => ?_⟩
  have ok := I.ok
  have hfr : X.A.frames = some (X.env :: X.outer) := by rw [ok.frames, hs]
  let hd : List ExceptHandler := [.ExceptHandler (some (.Name x np)) (some n) (b₀ :: suite) pos']
  refine wpAny_Try_except (wpAny_mono ((hb (wTr X.K c i ts Wout D) (X.pn ++ pins) (fun e s₁ => wpAny (model X.prog X.w) X.A (noteFrame e X.env) (fun _ s₂ => wpAny (model X.prog X.w) X.A (setFlight e none) (fun _ s₃ => wpAny (model X.prog X.w) X.A (handleBy e X.env hd) (SP X pins D) X.xe s₃) X.xe s₂) X.xe s₁)
    (fun u s' xx => ?_) PassesOwn.looking).run [] s σ H D (I.toTry _) h) (fun f s1 hsp => ?_) (fun e s1 he => he))
  · obtain ⟨a, B, sI, pins', σ', H', cls, d, rfl, J', nb, up, sky, na, os, ag, b, hb1, hyes, hno⟩ := xx
    have J : Inv X pins σ' H' sI := J'.ofTry ok
    show wpAny (model X.prog X.w) X.A (noteFrame (.ref a) X.env) _ _ _
    refine Sky.land Zc.steady hfr hf (by rw [← hs]; exact sky) fun h3 fl3 up3 => ?_
    have J3 : Inv X pins σ' H' { s' with heap := h3 } := J.landed nb fl3.1 (up.trans up3) os ag
    obtain ⟨oe3, vs3, he3, hz3, hd3⟩ := fl3.there
    have nfr : a ∉ frs (X.env :: X.outer) := fun hm => by
      obtain ⟨_, o', e', q⟩ := fl3.2.2.1.mem hm
      rw [he3] at e'; cases e'
      exact q _ hd3
    have nI : sI.heap.get? a = none := by
      cases e : sI.heap.get? a with
      | none => rfl
      | some o =>
        have q := nb a o e (by rw [hs]; exact nfr)
        have gB : B.get? a = none := fl3.2.1
        rw [gB] at q; cases q
    refine wpAny_handleBy_cons (codeAny_handlers_test ?_) (by intro q; cases q)
    have LT : PySem.W.Looks (model X.prog X.w) h3 (typeOf (.ref a)) cls := fun A Q E s k q => wpAny_typeOf_ref (k _ _ he3) (by rw [hz3.1]; exact q)
    have LM := PySem.W.exm_one (M := model X.prog X.w) J3.kIn LT hb1
    have S3 : Inv (X.suite a (X.pn ++ pins)) [] σ' H' { s' with heap := h3 } := suite0 J3
    have test : ∀ {Q E : Value → Shared → Prop}, Q c { s' with heap := h3 } → wpAny (model X.prog X.w) (X.A.mark (some (.ref a))) (eval (.Name x np) X.env) Q E { s' with heap := h3 } := fun {Q E} q => by
      obtain ⟨hg, hdbg, hm | ⟨hm, hv, hnn⟩⟩ := hc
      · exact ld_glob (X := X.suite a (X.pn ++ pins)) S3 hg hm q hdbg
      · exact ld_blt (X := X.suite a (X.pn ++ pins)) S3 hg hm hv q hnn hdbg
    refine test (LM.here ?_)
    cases b with
    | true =>
      obtain ⟨T, dx, rfl, rfl, hy⟩ := hyes rfl
      refine codeAny_handlers_suite_as (HandSPX.lands_againZ fl3 fun h4 fl4 up4 => ?_)
      obtain ⟨oe4, vs4, he4, hz4, hd4⟩ := fl4.there
      have J4 : Inv X pins σ' (upd H' a (ExH T dx a)) { s' with heap := h4 } := landedT J nb fl4.1 ((up.trans up3).trans up4) os ag nI na he4 hz4 hd4
      refine store_ok (X := X.suite a (X.pn ++ pins)) (v := .ref a) (suite0 J4) hN hi (.inl hln) rfl (fun s5 S5 => ?_) (.inr hln)
      refine wpAny_mono ((hsu a (X.pn ++ pins)).run [] s5 _ _ _ S5 (hy a na)) (fun f s6 hsp => ?_) (fun _ _ z => False.elim z)
      have out : ∀ {σ6 : St} {H6 : Hp} {Q : Shared → Prop}, Inv (X.suite a (X.pn ++ pins)) [] σ6 H6 s6 → (∀ s7, Inv X pins (σ6.set i none) H6 s7 → Q s7) →
          wpAny (model X.prog X.w) X.A (do bindName X.env n .none; unbindBehindTheSuite X.env n pos') (fun _ s7 => Q s7) X.xe s6 := fun {σ6 H6 Q} S6 hq => gone_ok (unsuite0 S6 ok) hN hi hln hq
      match f, hsp with
      | .next, ⟨σ6, H6, S6, q6⟩ => exact out S6 fun s7 J7 => ⟨_, _, J7, q6⟩
      | .brk, ⟨σ6, H6, S6, q6⟩ => exact out S6 fun s7 J7 => ⟨_, _, J7, q6⟩
      | .cont, ⟨σ6, H6, S6, q6⟩ => exact out S6 fun s7 J7 => ⟨_, _, J7, q6⟩
      | .ret u, ⟨v6, σ6, H6, S6, r6, q6⟩ => exact out S6 fun s7 J7 => ⟨_, _, _, J7, r6, q6⟩
    | false =>
      show wpAny _ X.A (handleBy (.ref a) X.env []) _ _ _
      refine wpAny_handleBy_nil ?_
      obtain ⟨k1, k2, k3, oe, us, T, oT, ts', he, hz, hd, h1, hr⟩ := id fl3
      have fin : wpAny (model X.prog X.w) X.A (setFlight (.ref a) X.env.frame) (fun _ s4 => wpAny (model X.prog X.w) X.A (throw (.ref a) : Sem Flow) (SP X pins D) X.xe s4) X.xe { s' with heap := h3 } := by
        rw [hf]
        exact HandSPX.setFlight_upZ fl3 fun h4 hh4 up4 => wpAny_throw (tk _ _ ⟨a, B, sI, pins, σ', H', cls, d, rfl, J, nb, (up.trans up3).trans up4, .inr (.inr (by rw [hs]; exact hh4)), na, os, ag, hno rfl⟩)
      unfold PySem.passOn
      refine wpAny_bind (wpAny_field he hd h1 ?_)
      rw [if_neg (show ¬ ((Value.ref T == Value.none) = true) from by simp)]
      first
        | exact wpAny_bind (wpAny_pure (wpAny_bind fin))
        | exact wpAny_bind fin
  · match f, hsp with
    | .next, ⟨σ', H', J', q⟩ => exact wpAny_execs_nil ⟨σ', H', J'.ofTry ok, q⟩
    | .brk, ⟨σ', H', J', q⟩ => exact ⟨σ', H', J'.ofTry ok, q⟩
    | .cont, ⟨σ', H', J', q⟩ => exact ⟨σ', H', J'.ofTry ok, q⟩
    | .ret u, ⟨v, σ', H', J', r, q⟩ => exact ⟨v, σ', H', J'.ofTry ok, r, q⟩
end
end DL

set_option Elab.async false
set_option linter.all false
set_option maxRecDepth 100000
set_option maxHeartbeats 1000000
/-! The data layer: told(lambda: e), the def that calls what it is given and keeps the error. -/
namespace DL
open PySem PySem.Spec L2
open PyProof.Rows hiding St

/-! ### a lambda is made -/
/-- what its making leaves: nothing new, or one table longer and a new code object -/
def LamH (H H1 : Hp) (P : Addr) (q : Str) : Prop := H1 = H ∨ ∃ ps' c2, H c2 = none ∧ H1 = upd (upd H P (.tbl ps')) c2 (LamX.CodeO c2 q)
section
variable {X : Cx} {pins : List (Addr × Obj)} {σ : St} {H : Hp} {s : Shared}
theorem lam_make3 {T : List (Addr × Str)} {c P : Addr} {params : Arguments} {body : Expr} {scope : Scope} {pos : Pos} {E Q : Value → Shared → Prop} {q : Str} (hq : X.env.qual ++ "<lambda>" = q) (I : Inv X pins σ H s) (TB : LamX.TabB X.base X.mg c P) (hcode : X.env.code = .ref c)
    (hm : (P, q) ∈ T) (hu : ∀ p ∈ T, p.1 = P → p.2 = q) (hT : LamX.Tabs T H) (hdef : defaultsOf params X.env = ([], [])) (hfree : ∀ y ∈ scope.names, y.2 = .free → ∃ c, X.env.cells.lookup y.1 = some c)
    (h : ∀ (f c' : Addr) (pm ctv : Value) (H1 : Hp) (s' : Shared), Inv X pins σ H1 s' → LamH H H1 P q → LamX.Tabs T H1 →
      s'.heap.get? f = some (PySem.W.kla_obj "<lambda>" q params body scope (cloFrom X.env.cells scope.names []) pm c' ctv) → H1 f = none → f ∉ frs X.stack → H1 c' = some (LamX.CodeO c' q) → Q (.ref f) s') :
    wpAny (model X.prog X.w) X.A (eval (.Lambda params body scope pos) X.env) Q E s := by
  subst hq
  obtain ⟨ps, hP, ht, ha⟩ := hT _ hm
  have bP : s.heap.BuiltinsAt X.mg P := TB.bm.keeps I.bk
  have hP' : s.heap.get? P = some { cls := .none, data := .fields ps } := I.hok P _ hP
  have nofr : ∀ f, s.heap.objs.size ≤ f → f ∉ frs X.stack := fun f hf z => by
    rcases List.mem_cons.mp (I.stkSub _ z) with e | e
    · have := I.lt
      rw [← e] at this
      exact Nat.lt_irrefl _ (Nat.lt_of_lt_of_le this hf)
    · exact I.nofs hf e
  refine PySem.W.kla_eval hdef ?_
  cases hc : codeAmong pos ps.toList with
  | some cv =>
    obtain ⟨c', e, hco⟩ := ha pos cv hc
    subst e
    refine PySem.W.kla_makeFunctionHit (mg := X.mg) (c := c) (P := P) (ps := ps) (closure_ok hfree) I.ok.glob (I.mod.glob.keeps I.bk) hcode (TB.code.keeps I.bk) hP' ht hc bP fun ctv h' tk hx hsz => ?_
    exact h h'.objs.size c' _ ctv H _ (I.kept fun b o e => Heap.get?_push_of_some _ (hx b o e)) (.inl rfl) hT (Heap.get?_push_size _ rfl) (I.hok.fresh hsz) (nofr _ hsz) hco
  | none =>
    refine PySem.W.kla_makeFunction (mg := X.mg) (c := c) (P := P) (ps := ps) (closure_ok hfree) I.ok.glob (I.mod.glob.keeps I.bk) hcode (TB.code.keeps I.bk) hP' ht hc TB.gP bP fun c' ctv h' tk hx hge hlt hrec htb => ?_
    obtain ⟨c2, oc, vs, t, e2, hoc, hd, hv⟩ := hrec
    cases e2
    have nC : H c' = none := I.hok.fresh hge
    have nPc : P ≠ c' := ne_of_none hP nC
    have hsz : s.heap.objs.size ≤ h'.objs.size := Nat.le_trans hge (Nat.le_of_lt hlt)
    let more : Array Value := #[rawInt pos.line, rawInt pos.col, .ref c']
    have I1 := LamX.inv_table (t' := tk) (more := more) (q := X.env.qual ++ "<lambda>") (h' := h'.push (PySem.W.kla_obj "<lambda>" (X.env.qual ++ "<lambda>") params body scope (cloFrom X.env.cells scope.names []) ((X.mg "__name__").getD .none) c' ctv)) I hP
      (fun b o hb e => Heap.get?_push_of_some _ (hx b o hb e)) (Heap.get?_push_of_some _ htb) hge ⟨oc, vs, t, Heap.get?_push_of_some _ hoc, hd, hv⟩
    have keep : ∀ b o, H b = some o → b ≠ P → upd (upd H P (.tbl (ps ++ more))) c' (LamX.CodeO c' (X.env.qual ++ "<lambda>")) b = some o := fun b o e n => by
      rw [upd_ne (ne_of_none e nC), upd_ne n]; exact e
    have code : ∀ b q', H b = some (LamX.CodeO b q') → b ≠ P := fun b q' e z => by
      rw [z, hP] at e
      exact LamX.codeO_ne ps (Option.some.inj e).symm
    have el : (ps ++ more).toList = ps.toList ++ [rawInt pos.line, rawInt pos.col, .ref c'] := by simp [more]
    refine h h'.objs.size c' _ ctv _ _ I1 (.inr ⟨_, c', nC, rfl⟩) (fun p hp => ?_) (Heap.get?_push_size _ rfl) ?_ (nofr _ hsz) upd_same
    · by_cases hb : p.1 = P
      · rw [hu p hp hb, hb]
        refine ⟨_, by rw [upd_ne nPc, upd_same], by rw [el]; exact PySem.TriplesOk_snoc _ _ _ _ ht, fun p' cv hcv => ?_⟩
        rw [el] at hcv
        rcases LamX.among_app _ ht hcv with z | z
        · obtain ⟨c0, e1, e2⟩ := ha p' cv z
          exact ⟨c0, e1, keep _ _ e2 (code _ _ e2)⟩
        · exact ⟨c', z, upd_same⟩
      · obtain ⟨ps', a1, a2, a3⟩ := hT p hp
        refine ⟨ps', keep _ _ a1 hb, a2, fun p' cv hcv => ?_⟩
        obtain ⟨c0, e1, e2⟩ := a3 p' cv hcv
        exact ⟨c0, e1, keep _ _ e2 (code _ _ e2)⟩
    · have n1 : h'.objs.size ≠ c' := Nat.ne_of_gt hlt
      have n2 : h'.objs.size ≠ P := Nat.ne_of_gt (Nat.lt_of_lt_of_le (Heap.lt_size hP') hsz)
      rw [upd_ne n1, upd_ne n2]
      exact I.hok.fresh hsz
end
/-- the state behind it -/
theorem ED.lam {C : Cn} {Y : Gr} {G : Hp} {σ : St} {H H1 : Hp} {ρ : DEnv} {P : Addr} {q : Str} (E : ED C Y G σ H ρ) (h : LamH H H1 P q) (hP : P ∈ Y.T.map (·.1)) (ht : LamX.Tabs Y.T H1) : ED C Y G σ H1 ρ := by
  rcases h with rfl | ⟨ps', c2, hn, rfl⟩
  · exact E
  · have gp := E.gt P hP
    have gc := E.gn hn
    have at_ : ∀ {b o}, H b = some o → b ≠ P → upd (upd H P (.tbl ps')) c2 (LamX.CodeO c2 q) b = some o := fun {b o} e n => by
      rw [upd_ne (ne_of_none e hn), upd_ne n]; exact e
    refine ⟨fun a u e => ?_, E.frz, fun i d e => ?_, E.ap, E.len, E.bor, fun a u e hb ha => ?_, E.fz, E.g0, ⟨E.tb.1, ht⟩, E.gt⟩
    · exact at_ (E.sub a u e) fun z => by rw [z, gp] at e; cases e
    · obtain ⟨r, r1, r2, r3, r4⟩ := E.own i d e
      obtain ⟨u, hu, hq⟩ := r3.quiet
      have nP : r ≠ P := fun z => tabs_no E.tb.2 hu hq (z ▸ hP)
      exact ⟨r, r1, r2, r3.mono Sub.rfl ((at_ hu nP).trans hu.symm), r4⟩
    · exact at_ (E.old a u e hb ha) fun z => ha (z ▸ hP)

/-! ### it is called -/
section
variable {X : Cx} {pins : List (Addr × Obj)} {σ : St} {H HZ : Hp} {s s1 : Shared} {Q : VK} {E : XK} {scope : Scope} {body : Expr} {params : Arguments} {f c' : Addr} {pm ctv : Value} {q : Str} {tb : TE} {A : Around} {outer : List Env} {k : Nat}
theorem lam_act (hq : X.env.qual ++ "<lambda>" = q) (I : Inv X pins σ H s) (L : LamX.LamS X.env.scope scope) (hbind : bindArgs (PySem.W.kla_fn "<lambda>" q params body scope (cloFrom X.env.cells scope.names []) pm (.ref c') ctv) ⟨[], []⟩ = pure [])
    (e0 : Env0 X.prog X.w X.K X.mg X.base A outer s1 HZ) (hr : Room k A) (lim : s1.heap.NoLimit) (un : Un (frs X.stack) [] H HZ s.heap s1.heap) (hf : s1.heap.get? f = some (PySem.W.kla_obj "<lambda>" q params body scope (cloFrom X.env.cells scope.names []) pm c' ctv)) (hc : HZ c' = some (LamX.CodeO c' q))
    (hb : PE (LamX.lamCx X A outer s1 HZ E scope f c') body tb) (ht : tb σ HZ Q) : codeAny (model X.prog X.w) A (.call (.ref f) ⟨[], []⟩) (CR (L2.CX X.prog X.w) outer X.prog X.w HZ s1 Q E) s1 := by
  subst hq
  obtain ⟨⟨oc, vs, t, hoc, hdc, hvc⟩, _, _⟩ := e0.hok c' _ hc
  refine PySem.W.kla_callFunE hr.depth hf rfl L.co L.gen rfl ⟨c', oc, vs, t, rfl, hoc, hdc, hvc⟩ ?_
  rw [hbind]
  refine wpAny_pure (wpAny_newFunctionEnv (fun y hy => (L.own y hy).2) (fun y hy => absurd hy (by simp)) (fun h₁ hns hsb => ⟨lim.fresh _ hsb, ?_⟩) L.kind)
  show codeAny _ _ (.expr body (LamX.lamEnv X scope s1.heap.objs.size f c')) _ _
  have J : Inv (LamX.lamCx X A outer s1 HZ E scope f c') [] σ HZ { s1 with heap := h₁, toks := s1.toks + ([] : List (Str × Value)).length } :=
    LamX.lam_start2 I L e0 hr.hd un hns fun b o e => hsb.extBut b o (Nat.ne_of_lt (Heap.lt_size e)) (Heap.get?_push_of_some _ e)
  refine PySem.W.kla_codeExpr (wpAny_mono (hb.run [] _ _ HZ Q J ht) (fun v s' ⟨w', H', J', rv, q⟩ => ?_) fun _ _ q => q)
  exact ⟨w', H', J'.os, J'.bare, J'.base, J'.hok, rv, q⟩
end

/-! ### told -/
/-- what told makes of the reading of what it is given -/
def TTd (K : PySem.W.Frag) (CS : Value) (tl : XK → Hp → VK → Prop) (H : Hp) (Q : VK) : Prop := ∀ p0, H p0 = none →
  tl (fun cls d H' => PySem.W.exmOne K cls CS = some true ∧ ∃ T dx, cls = .ref T ∧ d = some dx ∧ ∀ a, H' a = none → ∀ p, upd H' a (ExH T dx a) p = none → Q (.ref p) (upd (upd H' a (ExH T dx a)) p (.tup [.ref a, .non]))) (upd H p0 (.tup [.non, .non]))
    fun v H' => ∀ p, H' p = none → Q (.ref p) (upd H' p (.tup [.non, v]))
/-- .. by its body -/
def GivesD (X : Cx) (Ng : List Str) (x : Str) (sg : Scope) (g : Addr) (cdg : Value) (bg : List Stmt) (a : Str) (CS : Value) : Prop :=
  ∀ (f c' : Addr) (s : Shared) (H : Hp) (Q : VK) (q : Str) (tl : XK → Hp → VK → Prop), (∀ (E E' : XK) (H : Hp) (Q Q' : VK), (∀ c d H, E c d H → E' c d H) → (∀ v H, Q v H → Q' v H) → tl E H Q → tl E' H Q') →
    (∀ (W : WX) (pn : List (Addr × Obj)) (xe : Value → Shared → Prop) (p1 p2 : Pos), Takes ((cxOf C8.CX0 X.prog X.w X.K X.mg X.base Ng x sg g cdg X.A X.stack s H C8.E0).nox.tr pn xe) W →
      PE ((cxOf C8.CX0 X.prog X.w X.K X.mg X.base Ng x sg g cdg X.A X.stack s H C8.E0).nox.tr pn xe) (.Call (.Name a p1) [] [] p2) (fun σZ HZ Q => σZ[0]? = some (some (.ref f)) ∧ HZ c' = some (LamX.CodeO c' q) ∧ tl (fun c d H' => W c d σZ H') HZ Q)) →
    H c' = some (LamX.CodeO c' q) → TTd X.K CS tl H Q →
    ∃ t, PSs (cxOf C8.CX0 X.prog X.w X.K X.mg X.base Ng x sg g cdg X.A X.stack s H C8.E0).nox bg t ∧ t { nx := fun _ H' => Q .non H', rt := Q } (L2.start Ng [.ref f]) H
def toldN : List Str := ["_law_look", "_law_caught", "_law_back", "error"]
section
variable {X : Cx} {Ng : List Str} {x : Str} {sg : Scope} {g CS : Addr} {cdg : Value} {p1 p2 p3 p4 p5 p6 p7 p8 p9 p10 p11 p12 p13 p14 p15 p16 p17 p18 p19 p20 p21 : Pos} {k1 k2 j1 j2 k3}
theorem told_gives (S : FnScope toldN ["_law_look"] sg) (hge : sg.names.lookup ("HomeError" : Str) = some .globalImplicit) (hme : X.mg "HomeError" = some (.ref CS)) (h1 : sg.names.lookup ("_law_caught" : Str) = some .local) (h2 : sg.names.lookup ("_law_back" : Str) = some .local) (h3 : sg.names.lookup ("error" : Str) = some .local) (h0 : sg.names.lookup ("_law_look" : Str) = some .local)
    (hw : ∀ a : Addr, swappedStores [.Tuple [.Name "_law_caught" p1, .Name "_law_back" p2] k1 p3] (.Tuple [.Constant .none j1 p4, .Constant .none j2 p5] k2 p6) (envOfC x sg a g cdg) = pure none) :
    GivesD X toldN x sg g cdg [.Assign [.Tuple [.Name "_law_caught" p1, .Name "_law_back" p2] k1 p3] (.Tuple [.Constant .none j1 p4, .Constant .none j2 p5] k2 p6) p7,
      .Try [.Assign [.Name "_law_back" p8] (.Call (.Name "_law_look" p9) [] [] p10) p11] [.ExceptHandler (some (.Name "HomeError" p12)) (some "error") [.Assign [.Name "_law_caught" p13] (.Name "error" p14) p15] p16] [] [] p17,
      .Return (some (.Tuple [.Name "_law_caught" p18, .Name "_law_back" p19] k3 p20)) p21] "_law_look" (.ref CS) := by
  intro f c' s H Q q tl mono act hc h
  let Z := (cxOf C8.CX0 X.prog X.w X.K X.mg X.base toldN x sg g cdg X.A X.stack s H C8.E0).nox
  have hgl : Gl Z "HomeError" := hge
  have v1 : ∀ {p : Pos}, PE Z (.Name "_law_caught" p) (tVar 1) := pe_var (X := Z) (i := 1) rfl (.inl h1)
  have v2 : ∀ {p : Pos}, PE Z (.Name "_law_back" p) (tVar 2) := pe_var (X := Z) (i := 2) rfl (.inl h2)
  refine ⟨_, pss_cons (ps_asg (X := Z) (pe_tup (pa_cons pe_non (pa_cons pe_non pa_nil))) (pg_tup rfl (pgs_cons (pg_name (X := Z) (i := 1) S.nd rfl (.inl h1)) (pgs_cons (pg_name (X := Z) (i := 2) S.nd rfl (.inl h2)) pgs_nil))) rfl (hw _))
    (pss_cons (ps_tryT (X := Z) (Wout := WF) (i := 3) (c := .ref CS) (tb := fun W D σ H => σ[0]? = some (some (V.ref f)) ∧ H c' = some (LamX.CodeO c' q) ∧ tl (fun c d H' => W c d σ H') H fun v H1 => D.nx (σ.set 2 (some v)) H1) rfl rfl S.nd rfl h3 ⟨hgl, by decide, .inl hme⟩ (fun _ _ z => by obtain ⟨_, _, _, _, _, _, _, _, _, _, _, _, _, _, _, _, z⟩ := z; exact z.elim)
      (fun W pn xe tk _ => pss_one (PS.st (ps_set (X := Z.tr pn xe) (i := 2) S.nd rfl (.inl h2) (act W pn xe _ _ tk)) fun D σ H h => h))
      fun a pn => pss_one (ps_set (X := Z.suite a pn) (i := 1) S.nd rfl (.inl h1) (pe_var (X := Z.suite a pn) (i := 3) rfl (.inl h3))))
    (pss_one (ps_ret (pe_tup (pa_cons v1 (pa_cons v2 pa_nil)))))), ?_⟩
  have hz : (2 : Nat) ≤ sizeLine := by rw [sizeLine_eq]; exact (by decide : 2 ≤ 16777216)
  refine ⟨hz, fun p0 hp0 => ⟨p0, [.non, .non], rfl, .inl (.inl upd_same), rfl, .non, [.non], rfl, .non, [], rfl, rfl, ?_⟩⟩
  have h := h p0 hp0
  refine ⟨rfl, by rw [upd_ne (fun z => by rw [← z, hc] at hp0; cases hp0)]; exact hc, ?_⟩
  have back : ∀ {v : V} {H' : Hp} {σ : St} {u : V}, σ[1]? = some (some u) → σ[2]? = some (some v) → (∀ p, H' p = none → Q (.ref p) (upd H' p (.tup [u, v]))) → tRet (tTup (tCons (tVar 1) (tCons (tVar 2) tNil))) { nx := fun _ H' => Q .non H', rt := Q } σ H' := fun e1 e2 k => ⟨_, e1, _, e2, hz, k⟩
  refine mono _ _ _ _ _ (fun c d H' hh => ?_) (fun v H' hh => ?_) h
  · obtain ⟨he, T, dx, rfl, rfl, hq⟩ := hh
    exact ⟨true, he, fun _ => ⟨T, dx, rfl, rfl, fun a ha => ⟨.ref a, rfl, back rfl rfl fun p hp => hq a ha p hp⟩⟩, fun z => nomatch z⟩
  · exact back rfl rfl fun p hp => hh p hp
end

/-! ### in the data layer -/
def eTold (es : List Str) (g : M Opd) : M Opd := fun ρ => match g ρ with
  | .ok o ρ1 => (match takeO o ρ1 with
    | some (d, ρ2) => .ok (.val (.tup [.non, d])) ρ2
    | none => .bad)
  | .exc c d ρ1 => if es.contains c then .ok (.val (.tup [.exc c d, .non])) ρ1 else .bad
  | .bad => .bad
theorem Post.imp {C : Cn} {W W' : WX} {Q Q' : VK} {Y : Gr} {G : Hp} {σ : St} (hw : ∀ c d H, W c d σ H → W' c d σ H) (hq : ∀ v H, Q v H → Q' v H) : ∀ {r : R Opd}, Post C W Q Y G σ r → Post C W' Q' Y G σ r
  | .ok o ρ, p => fun G' H v s E od => hq _ _ (p G' H v s E od)
  | .exc c d ρ, p => fun T dx G' H hc s E x => hw _ _ _ (p T dx G' H hc s E x)
  | .bad, p => p
theorem exm_err {K : PySem.W.Frag} {B fI T U : Addr} {c d : Str} (t : ErrT K B fI c T) (u : ErrT K B fI d U) (b : IsBase K B) (hcd : c = d → T = U) : PySem.W.exmOne K (.ref T) (.ref U) = some (decide (c = d) || decide (d = "HomeError")) := by
  unfold PySem.W.exmOne
  rw [if_pos (by rw [u.exB]; rfl)]
  by_cases h : T = U
  · subst h
    have e : c = d := Classical.byContradiction fun h => t.ne u h rfl
    obtain ⟨q, N, bs, sn, sub, ab, col, h1⟩ := u.cd
    show (if ((PySem.W.clsIn K T).isSome && PySem.W.typeIn K (.ref T) == some (.type "type")) = true then PySem.W.mroIn K T (.ref T) else none) = _
    rw [if_pos (by rw [h1, u.ty]; rfl), t.mro]
    simp [e]
  · have k := t.kit u b hcd
    unfold PySem.W.kitOne at k
    rw [if_neg (by simpa using h)] at k
    exact k
/-- the def told, as it is called -/
structure CalT (P : Program) (K : PySem.W.Frag) (mg : Str → Option Value) (x : Str) : Prop where
  ex : ∃ (g : Addr) (oc : Value) (od : Option Addr) (pg : Arguments) (bg : List Stmt) (sg : Scope) (dV kV doc pm cdv ct : Value) (an : Option Addr) (osl : Array (Option Value)) (CS : Addr), mg x = some (.ref g) ∧ PySem.W.keepIn K (.ref g) = true ∧
    K.lookup g = some ⟨oc, od, .func (PySem.W.fnOf x x pg bg sg dV kV doc pm an cdv ct), osl⟩ ∧ PySem.W.codeIn K cdv x = true ∧ Binds K (PySem.W.fnOf x x pg bg sg dV kV doc pm an cdv ct) ["_law_look"] [] ∧ FnScope toldN ["_law_look"] sg ∧ Vis sg ("_law_look" : Str) ∧
    mg "HomeError" = some (.ref CS) ∧ ∀ X : Cx, X.prog = P → X.K = K → X.mg = mg → GivesD X toldN x sg g cdv bg "_law_look" (.ref CS)
section
variable {X : Cx} {C : Cn} {W : WX} {k : Nat} {fr : List Str} {x : Str} {params : Arguments} {body : Expr} {scope : Scope} {lpos pos p : Pos} {es : List Str} {g : M Opd} {c P : Addr}
theorem wTold (B : Bd X C W (k + 2) fr) (ct : CalT X.prog X.K X.mg x) (TB : LamX.TabB X.base X.mg c P) (hcode : X.env.code = .ref c) (hm : (P, X.env.qual ++ "<lambda>") ∈ C.b.T) (hu : ∀ p ∈ C.b.T, p.1 = P → p.2 = X.env.qual ++ "<lambda>") (he : ∀ c ∈ es, c ∈ C.b.errs) (hH : ("HomeError" : Str) ∈ C.b.errs)
    (hb : ∀ (A : Around) (outer : List Env) (s : Shared) (H : Hp) (E : XK) (f c' : Addr), Bd (LamX.lamCx X A outer s H E scope f c') C (fun c d _ H' => E c d H') k fr → PE (LamX.lamCx X A outer s H E scope f c') body (tE C (fun c d _ H' => E c d H') g))
    (hg : Gl X x := by rfl) (L : LamX.LamS X.env.scope scope := by exact LamX.lamS_by (by decide +kernel)) (hdef : defaultsOf params X.env = ([], []) := by rfl) (hbind : ∀ (q : Str) (cl : List (Str × Addr)) (pm cv ctv : Value), bindArgs (PySem.W.kla_fn "<lambda>" q params body scope cl pm cv ctv) ⟨[], []⟩ = pure [] := by intro _ _ _ _ _; rfl)
    (hdb : (x == ("__debug__" : Str)) = false := by decide) : PE X (.Call (.Name x p) [.Lambda params body scope lpos] [] pos) (tE C W (eTold es g)) := by
  obtain ⟨gA, oc, od, pg, bg, sg, dV, kV, doc, pm, cdv, ctv, an, osl, CS, hgm, hk, lk, hcg, hbn, Sg, hva, hCS, hG⟩ := ct.ex
  refine ⟨fun pins s σ H Q I h => ?_⟩
  obtain ⟨Y, G, ρ, E, h⟩ := h
  have hm' : (P, X.env.qual ++ "<lambda>") ∈ Y.T := by rw [E.tb.1]; exact hm
  have hP : P ∈ Y.T.map (·.1) := List.mem_map.mpr ⟨_, hm', rfl⟩
  refine wpAny_Call_Name_kw (ld_glob I hg hgm (PySem.W.callWith_K (h₀ := X.base) I.ok.mod.kin hk ?_ (by rfl) (by rfl)) hdb)
  show wpAny _ _ (spliced ((false, eval (.Lambda params body scope lpos) X.env) :: backTo pos (starEach [] X.env))) _ _ s
  refine Calls.spliced_cons (lam_make3 rfl I TB hcode hm' (by rw [E.tb.1]; exact hu) E.tb.2 hdef (L.has I.ok) fun f c' pm' ctv' H1 s' I1 lh T1 hf hfn hfr hco => ?_)
  have E1 := E.lam lh hP T1
  refine Calls.spliced_nil ⟨I1.kIn, ?_⟩
  have rc : codeAny (model X.prog X.w) X.A (.call (.ref gA) ⟨[.ref f], []⟩) (CR C8.CX0 X.stack X.prog X.w H1 s' Q C8.E0) s' := by
    refine LamX.run_ofS (k := k + 1) (N := toldN) (ps := ["_law_look"]) (us := [.ref f]) (vs := [.ref f]) lk hcg Sg B.rm I1.env0 (hbn s' [.ref f] I1.kIn rfl) (.cons rfl .nil) rfl fun hr' => ?_
    refine Exists.elim (hG X rfl rfl rfl f c' s' H1 Q (X.env.qual ++ "<lambda>") (fun E H Q => tE C (fun c d _ H' => E c d H') g σ H Q)
      (fun E E' H Q Q' h1 h2 ⟨Y, G, ρ, E0, p⟩ => ⟨Y, G, ρ, E0, p.imp (fun c d H => h1 c d H) h2⟩) (fun WZ pn xe p1 p2 tk => ?_) hco ?_) fun t' hh => ⟨t', hh.1.nox, hh.2⟩
    · refine ⟨fun pinsZ sZ σZ HZ QZ IZ hZ => ?_⟩
      obtain ⟨z1, z2, z3⟩ := hZ
      refine wpAny_Call_Name_kw (thn ((pe_var (pos := p1) (i := 0) rfl hva).run pinsZ sZ σZ HZ (fun v H2 => v = .ref f ∧ H2 = HZ) IZ ⟨.ref f, z1, rfl, rfl⟩) fun u s1 ⟨v, H2, I2, r1, ev, eH⟩ => ?_)
      subst ev
      rw [eH] at I2
      obtain rfl : u = Value.ref f := r1
      have of1 : s1.heap.get? f = some (PySem.W.kla_obj "<lambda>" (X.env.qual ++ "<lambda>") params body scope (cloFrom X.env.cells scope.names []) pm' c' ctv') := I2.base.keep f _ hf hfn hfr (fun z => nomatch (show f ∈ ([] : List Addr) from z))
      have un : Un (frs X.stack) [] H1 HZ s'.heap s1.heap := I2.base
      have e0 : Env0 X.prog X.w X.K X.mg X.base (X.A.deeper (envOfC x sg s'.heap.objs.size gA cdv)) (envOfC x sg s'.heap.objs.size gA cdv :: X.stack) s1 HZ := I2.env0
      have bd : Bd (LamX.lamCx X (X.A.deeper (envOfC x sg s'.heap.objs.size gA cdv)) (envOfC x sg s'.heap.objs.size gA cdv :: X.stack) s1 HZ (fun c d H' => WZ c d σZ H') scope f c') C (fun c d _ H' => WZ c d σZ H') k fr :=
        ⟨⟨B.ct.k, B.ct.mg, B.ct.err, B.ct.gd, B.ct.sm⟩, hr'.deeper _, TkC.of (takes_of (X := LamX.lamCx X (X.A.deeper (envOfC x sg s'.heap.objs.size gA cdv)) (envOfC x sg s'.heap.objs.size gA cdv :: X.stack) s1 HZ (fun c d H' => WZ c d σZ H') scope f c') (E := fun c d H' => WZ c d σZ H') rfl rfl rfl rfl), rfl, B.nd, B.free⟩
      have act := lam_act (X := X) (Q := QZ) (E := fun c d H' => WZ c d σZ H') (A := X.A.deeper (envOfC x sg s'.heap.objs.size gA cdv)) (outer := envOfC x sg s'.heap.objs.size gA cdv :: X.stack) rfl I1 L (hbind _ _ _ _ _) e0 hr' I2.nolimit un of1 z2 (hb _ _ s1 HZ _ f c' bd) z3
      refine PySem.W.callWith_F0 ⟨_, _, _, _, of1⟩ (wpAny_call (codeAny_mono act fun res s2 hq => ?_))
      match res, hq with
      | .error e, hq => exact TkC.of tk pinsZ σZ HZ s1 e s2 I2 hq
      | .ok (.ret u), hq => exact I2.after hq
    · -- what told asks of the reading
      intro p0 hp0
      refine ⟨Y, G, ρ, E1.laid hp0, ?_⟩
      unfold eTold at h
      cases hg' : g ρ with
      | bad => rw [hg'] at h; exact h.elim
      | ok o ρ1 =>
        rw [hg'] at h
        dsimp only at h
        intro G' H' v sg' E' od' p hp
        cases ht : takeO o ρ1 with
        | none => rw [ht] at h; exact h.elim
        | some z =>
          obtain ⟨d, ρ2⟩ := z
          rw [ht] at h
          obtain ⟨G2, s2, E2, dv⟩ := takeO_ok E' od' ht
          have E3 := E2.froze (o := .tup [.non, v]) hp
          have s3 : Sub G2 (upd G2 p (.tup [.non, v])) := Sub.new (E2.gn hp)
          refine h _ _ _ ((sg'.trans s2).trans s3) E3 ?_
          unfold OD den
          exact ⟨p, _, rfl, .inl (.inl upd_same), by unfold denL; exact ⟨_, _, rfl, by unfold den; rfl, by unfold denL; exact ⟨_, _, rfl, den.mono s3 _ _ dv, by unfold denL; rfl⟩⟩⟩
      | exc c d ρ1 =>
        rw [hg'] at h
        dsimp only at h
        split at h
        · rename_i hce
          intro T dx G' H' hc s2 E' xd
          obtain ⟨Bc, fI, cc, cda, TBx, IB, TE⟩ := B.ct.err.ex
          have hce' : c ∈ C.b.errs := he c (by simpa using hce)
          obtain ⟨T', hT', TT⟩ := TE c hce'
          rw [hc] at hT'
          cases hT'
          obtain ⟨U, hU, UT⟩ := TE _ hH
          rw [B.ct.mg, hCS] at hU
          cases hU
          obtain ⟨u, x1, x2, x3, x4⟩ := xd
          refine ⟨?_, T, dx, rfl, rfl, fun a ha p hp => ?_⟩
          · rw [← B.ct.k]
            have := exm_err TT UT IB fun e => by subst e; rw [B.ct.mg, hCS] at hc; cases hc; rfl
            rw [this]; simp
          · have ne : dx ≠ a := fun z => by rw [z, ha] at x1; cases x1
            have E2 := E'.froze (o := ExH T dx a) ha
            have sA : Sub G' (upd G' a (ExH T dx a)) := Sub.new (E'.gn ha)
            have ld : Lone C Y (upd G' a (ExH T dx a)) σ ρ1 dx := by
              refine ⟨by rw [upd_ne ne]; exact x3, x4, fun i e h1 h2 => ?_, tabs_no E'.tb.2 x1 quiet_xd⟩
              obtain ⟨r, r1, _, r3, _⟩ := E'.own i e h1
              rw [h2] at r1; cases r1
              cases e with
              | lst xs => obtain ⟨vs, q, _⟩ := r3; rw [x1] at q; cases q
              | dK xs => obtain ⟨vs, q, _⟩ := r3; rw [x1] at q; cases q
              | _ => exact r3.elim
            obtain ⟨sB, E3⟩ := E2.freezeAt ld (by rw [upd_ne ne]; exact x1)
            have de : den C.b (upd (upd G' a (ExH T dx a)) dx (.xd [(("value" : Str), u)])) (.exc c d) (.ref a) := by
              unfold den
              refine ⟨a, dx, T, u, rfl, ⟨hce', hc⟩, ?_, upd_same, den.mono (sA.trans sB) _ _ x2⟩
              rw [upd_ne (Ne.symm ne), upd_same]
            have E4 := E3.froze (o := .tup [.ref a, .non]) hp
            have sC := Sub.new (o := .tup [.ref a, .non]) (E3.gn hp)
            refine h _ _ _ (((s2.trans sA).trans sB).trans sC) E4 ?_
            unfold OD den
            exact ⟨p, _, rfl, .inl (.inl upd_same), by unfold denL; exact ⟨_, _, rfl, den.mono sC _ _ de, by unfold denL; exact ⟨_, _, rfl, by unfold den; rfl, by unfold denL; rfl⟩⟩⟩
        · exact h.elim
  refine wpAny_call (codeAny_mono rc fun r s2 hq => ?_)
  match r, hq with
  | .error e, hq => exact (show False from hq).elim
  | .ok (.ret u), hq => exact I1.after hq
end
end DL

set_option Elab.async false
set_option linter.all false
set_option maxRecDepth 100000
set_option maxHeartbeats 1000000
/-! The data layer: isinstance of own classes. -/
namespace DL
open PySem PySem.Spec L2
open PyProof.Rows hiding St

/-- an own class that stands on object alone -/
def ownCls (K : PySem.W.Frag) (c : Str) (T : Addr) : Bool := (match PySem.W.clsIn K T with
  | some cd => decide (cd.name = c) && decide (cd.mro = [.ref T, .type "object"])
  | none => false) && (decide (PySem.W.typeIn K (.ref T) = some (.type "type")) && (decide (PySem.W.findIn K (.ref T) "__class__" = some (some (.builtin "object.__class__"))) && decide (PySem.W.findIn K (.ref T) "__ne__" = some (some (.builtin "object.__ne__")))))
theorem ownCls_ok {K : PySem.W.Frag} {c : Str} {T : Addr} (h : ownCls K c T = true) : ∃ cd, PySem.W.clsIn K T = some cd ∧ cd.name = c ∧ cd.mro = [.ref T, .type "object"] ∧ PySem.W.typeIn K (.ref T) = some (.type "type") ∧ PySem.W.findIn K (.ref T) "__class__" = some (some (.builtin "object.__class__")) := by
  unfold ownCls at h
  obtain ⟨h1, h2⟩ := Bool.and_eq_true_iff.mp h
  obtain ⟨h3, h4⟩ := Bool.and_eq_true_iff.mp h2
  obtain ⟨h4, _⟩ := Bool.and_eq_true_iff.mp h4
  split at h1
  · rename_i cd hcd
    obtain ⟨h5, h6⟩ := Bool.and_eq_true_iff.mp h1
    exact ⟨cd, hcd, of_decide_eq_true h5, of_decide_eq_true h6, of_decide_eq_true h3, of_decide_eq_true h4⟩
  · cases h1
theorem ownCls_ne {K : PySem.W.Frag} {c : Str} {T : Addr} (h : ownCls K c T = true) : PySem.W.findIn K (.ref T) "__ne__" = some (some (.builtin "object.__ne__")) := by
  unfold ownCls at h
  exact of_decide_eq_true (Bool.and_eq_true_iff.mp (Bool.and_eq_true_iff.mp (Bool.and_eq_true_iff.mp h).2).2).2
/-- these are own classes -/
def OwnL (K : PySem.W.Frag) (mg : Str → Option Value) (l : List Str) : Prop := ∀ c ∈ l, ∃ T, mg c = some (.ref T) ∧ SlX.SCls K T ∧ ownCls K c T = true
theorem mro_own {K : PySem.W.Frag} {c : Str} {T : Addr} (h : ownCls K c T = true) (x : Value) : PySem.W.mroIn K T x = some ([Value.ref T, .type "object"].contains x) := by
  obtain ⟨cd, h1, _, h3, _⟩ := ownCls_ok h
  unfold PySem.W.mroIn
  rw [h1, Option.bind_some, h3]; rfl
theorem sisi_own {K : PySem.W.Frag} {c : Str} {T : Addr} (h : ownCls K c T = true) : SlX.SIsi K T := by
  obtain ⟨cd, _, _, _, _, h5⟩ := ownCls_ok h
  exact ⟨h5, by kernel_rfl, by kernel_rfl, (mro_own h _).trans (by simp)⟩
theorem own_ne {K : PySem.W.Frag} {c d : Str} {T U : Addr} (h : ownCls K c T = true) (h' : ownCls K d U = true) (hcd : c ≠ d) : T ≠ U := fun e => by
  subst e
  obtain ⟨cd, h1, h2, _⟩ := ownCls_ok h
  obtain ⟨cd', h1', h2', _⟩ := ownCls_ok h'
  rw [h1] at h1'; cases h1'
  exact hcd (h2.symm.trans h2')
theorem own_neE {K : PySem.W.Frag} {B fI : Addr} {c d : Str} {T U : Addr} (h : ownCls K c T = true) (u : ErrT K B fI d U) (hcd : c ≠ d) : T ≠ U := fun e => by
  subst e
  obtain ⟨cd, h1, h2, _⟩ := ownCls_ok h
  obtain ⟨q, N, bs, sn, sub, ab, col, h3⟩ := u.cd
  rw [h1] at h3; cases h3
  exact hcd h2.symm
theorem kit_into {K : PySem.W.Frag} {c : Str} {T : Addr} {t : Value} {b : Bool} (h : ownCls K c T = true) (ht : t ≠ .ref T) (hs : PySem.W.subIn K t (.ref T) = some b) : PySem.W.kitOne K t (.ref T) = some b := by
  obtain ⟨cd, h1, _, _, h4, _⟩ := ownCls_ok h
  unfold PySem.W.kitOne
  rw [if_neg (by simpa using ht)]
  show (if ((PySem.W.clsIn K T).isSome && PySem.W.typeIn K (.ref T) == some (.type "type")) = true then PySem.W.subIn K t (.ref T) else none) = _
  rw [if_pos (by rw [h1, h4]; rfl), hs]
/-- isinstance(x, c), c an own class; l: the own classes whose instances may stand for x -/
def isO (l : List Str) (c : Str) (d : D) : Option Bool := match d with
  | .obj c' _ => if l.contains c' then some (decide (c' = c)) else none
  | _ => some false
def isOF (l : List Str) (c : Str) : D → Option Opd := fun d => (isO l c d).map fun b => .val (.bl b)
def rIsO (C : Cn) (l : List Str) (c : Str) (T : Addr) : List V → Hp → VK → Prop := fun xs H Q => ∃ x G d b, xs = [x, .ref T] ∧ Sub G H ∧ DV C.b G H d x ∧ isO l c d = some b ∧ Q (.bl b) H
section
variable {X : Cx} {C : Cn} {W : WX} {k : Nat} {fr : List Str} {e : Expr} {f : M Opd} {c : Str} {p p2 pos : Pos} {l : List Str} {T : Addr}
theorem call_isO (hC : Ct X C) (O : OwnL C.b.K C.b.mg l) (hc : c ∈ l) (hne : ∀ x ∈ C.b.errs, x ≠ c) (hH : ("HomeError" : Str) ∈ C.b.errs) (hT : C.b.mg c = some (.ref T)) : CallR X (.builtin "isinstance") (rIsO C l c T) := by
  intro pins s σ H xs us Q I r h
  obtain ⟨x, G, d, b, rfl, sub, dv, e, q⟩ := h
  obtain ⟨u1, u2, rfl, r1, r2⟩ := vals2 r
  obtain rfl : u2 = Value.ref T := r2
  obtain ⟨T0, hT0, sc0, oc⟩ := O c hc
  rw [hT] at hT0; cases hT0
  obtain ⟨B, fI, cc, cda, TB, IB, TE⟩ := hC.err.ex
  have oc' : ownCls X.K c T = true := by rw [← hC.k]; exact oc
  have go : ∀ {Z t Hx}, PySem.W.KitX X.K u1 t Hx → Hx s.heap → PySem.W.kitOne X.K t (.ref T) = some b → u1 ≠ .builtin "__main__.__loader__#opaque" → wpAny (model X.prog X.w) X.A (call (.builtin "isinstance") [u1, .ref T]) (EP X pins σ Q) Z s := fun z p ek hx => PySem.W.kia_one z I.kIn p ek hx fun tk => ⟨.bl b, H, I.tok tk, rfl, q⟩
  by_cases hx : ∃ c0 d0, d = .exc c0 d0
  · obtain ⟨c0, d0, rfl⟩ := hx
    cases e
    rcases dv with dv | ⟨_, _, dv⟩
    · obtain ⟨a, dx, U, u, oe, od, rfl, hc0, hU, UT, J, _⟩ := inst_of hC I sub TE dv
      obtain rfl : u1 = Value.ref a := r1
      have n1 : T ≠ U := own_neE oc' UT (Ne.symm (hne _ hc0))
      refine go (kitx_err UT) J (kit_into oc' (fun z => n1 (Value.ref.inj z).symm) ?_) (fun z => nomatch z)
      show PySem.W.mroIn X.K U (.ref T) = _
      rw [UT.mro]
      have n2 : (Value.ref T == Value.ref U) = false := by simpa using n1
      rw [List.contains_cons, n2, Bool.false_or]
      split
      · simp [HandSPX.veTail]
      · rename_i hh
        have n3 : T ≠ B := fun z => by
          obtain ⟨q, N, bs, bm, sn, sub, ab, col, dd, k0, k1, k2, k3, k5, hB⟩ := IB
          obtain ⟨cd, g1, g2, _⟩ := ownCls_ok oc
          subst z
          unfold PySem.W.clsIn at g1
          rw [hB] at g1
          cases g1
          exact hne _ hH g2
        rw [List.contains_cons]
        have n4 : (Value.ref T == Value.ref B) = false := by simpa using n3
        rw [n4]
        simp [HandSPX.veTail]
    · exact dv.elim
  · by_cases ho : ∃ c0 fs, d = .obj c0 fs
    · obtain ⟨c0, fs, rfl⟩ := ho
      obtain ⟨a, dx, U, vs, rfl, hU, sl, _⟩ := dv.obj sub
      obtain rfl : u1 = Value.ref a := r1
      unfold isO at e
      dsimp only at e
      split at e
      · rename_i hl
        cases e
        obtain ⟨U0, hU0, scU, ocU⟩ := O c0 (by simpa using hl)
        rw [hU] at hU0; cases hU0
        have ocU' : ownCls X.K c0 U = true := by rw [← hC.k]; exact ocU
        have scU' : SlX.SCls X.K U := by rw [← hC.k]; exact scU
        obtain ⟨sa, od, _, J, _⟩ := SlX.slt_inst I sl
        have si := sisi_own ocU'
        refine go (OwX.kitx_slt scU'.ic (scU'.get _) si.ca si.cn si.ct si.cm) J ?_ (fun z => nomatch z)
        by_cases hcc : c0 = c
        · subst hcc
          rw [hT] at hU; cases hU
          unfold PySem.W.kitOne
          rw [if_pos (by simp)]; simp
        · have n1 : U ≠ T := own_ne ocU' oc' hcc
          refine (kit_into oc' (fun z => n1 (Value.ref.inj z)) (mro_own ocU' _)).trans ?_
          have n2 : (Value.ref T == Value.ref U) = false := by simpa using Ne.symm n1
          rw [decide_eq_false hcc]
          simp [n2, Ne.symm n1]
      · cases e
    · obtain ⟨n, hn⟩ : ∃ n, tyD d = some n := by
        cases d <;> first | exact ⟨_, rfl⟩ | exact absurd ⟨_, _, rfl⟩ hx | exact absurd ⟨_, _, rfl⟩ ho
      have hb : b = false := by
        cases d <;> first | (cases e; rfl) | exact absurd ⟨_, _, rfl⟩ hx | exact absurd ⟨_, _, rfl⟩ ho
      subst hb
      obtain ⟨P, Z, p, hx'⟩ := kit_of I r1 (tyx_of hC.k sub dv hn)
      exact go Z p (kit_into oc' (fun z => nomatch z) (ref_no (tyD_mem hn))) hx'
theorem wIsO (B : Bd X C W k fr) (O : OwnL C.b.K C.b.mg l) (he : PE X e (tE C W f)) (hc : c ∈ l := by decide) (hne : ∀ x ∈ C.b.errs, x ≠ c) (hH : ("HomeError" : Str) ∈ C.b.errs) (hx : ("isinstance" : Str) ∈ fr := by decide) (hg : Gl X "isinstance" := by rfl) (hgc : Gl X c := by rfl) (hdb : (c == ("__debug__" : Str)) = false := by decide)
    (hs : starEach (e :: [.Name c p2]) X.env = (false, eval e X.env) :: starEach [.Name c p2] X.env := by rfl) (hs2 : starEach (.Name c p2 :: []) X.env = (false, eval (.Name c p2) X.env) :: starEach [] X.env := by rfl)
    (hpl : (backTo pos (starEach [.Name c p2] X.env)).any (·.1) = false := by rfl) : PE X (.Call (.Name "isinstance" p) [e, .Name c p2] [] pos) (tE C W (e1 f (isOF l c))) := by
  obtain ⟨T, hT, _, _⟩ := O c hc
  refine PE.st (pe_callB (call_isO B.ct O hc hne hH hT) hg (B.free _ hx) (by kernel_rfl) (pa_cons he (pa_cons (pe_glob (v := .ref T) hgc (by rw [← B.ct.mg]; exact hT) rfl hdb) pa_nil hs2) hs) (by decide) (by decide) hs hpl) fun σ H Q h => ?_
  obtain ⟨Y, G, ρ, E, q⟩ := h
  refine seq1 (C := C) Post.lk E q fun G1 H1 ρ1 o1 v1 s1 pl E1 od1 p1 => ?_
  unfold fin1 at p1
  cases l' : look o1 ρ1 with
  | none => rw [l'] at p1; exact p1.elim
  | some d =>
    rw [l'] at p1
    dsimp only at p1
    cases hi : isO l c d with
    | none => unfold isOF at p1; rw [hi] at p1; exact p1.elim
    | some b =>
      unfold isOF at p1
      rw [hi] at p1
      exact ⟨v1, G1, d, b, rfl, E1.sub, look_ok E1 od1 l', hi, p1 G1 H1 _ Sub.rfl E1 (by unfold OD den; rfl)⟩
end
end DL

set_option Elab.async false
set_option linter.all false
set_option maxRecDepth 100000
set_option maxHeartbeats 1000000
/-! The data layer: defs that make lambdas, __init__s, short words for what is printed. -/
namespace DL
open PySem PySem.Spec L2
open PyProof.Rows hiding St

section
variable {P : Program} {w : World} {K : PySem.W.Frag} {mg : Str → Option Value} {base : Heap} {k : Nat} {f : Addr} {name qual : Str} {params : Arguments} {body : List Stmt} {scope : Scope} {fd : FuncData} {errs fr : List Str} {tb : List (Addr × Str)} {dvs : List V} {N ps : List Str} {m : M Fl} {c : Str} {ini : Ini}
/-- a def whose code object is told -/
theorem FnM.ofL {cA : Addr} (T : Tp P K mg base errs tb fr) (F : FunD K name qual params body scope dvs [] f fd) (S : FnScope N ps scope) (hc : fd.code = .ref cA)
    (hbody : ∀ (X : Cx) (W : WX) (A : Around) (outer : List Env) (s : Shared) (H : Hp) (E : XK), X = cxOf (CX P w) P w K mg base N qual scope f (.ref cA) A outer s H E → Bd X ⟨⟨K, mg, errs, tb⟩, ps.length⟩ W k fr → PassesOwn (model X.prog X.w) X.A X.env X.xe → Takes X W → PSs X body (tS ⟨⟨K, mg, errs, tb⟩, ps.length⟩ W m)) :
    FnD P w K mg base (k + 1) f fd ps (spM ⟨K, mg, errs, tb⟩ ps.length N.length m) := by
  obtain ⟨oc, od, dV, kV, doc, pm, an, cdv, ct, osl, rfl, lk, hcd, _, _⟩ := F.ex
  obtain rfl : cdv = .ref cA := hc
  refine fnD_of lk hcd S (fun vs H Q E h => h.1) fun A outer s H vs Q E hr hgd hsp => ?_
  obtain ⟨hl, G, ρa, a, p⟩ := hsp
  refine ⟨_, hbody _ (fun T dx _ H' => E T dx H') A outer s H E rfl ?_ (passes_of rfl) (takes_of (X := cxOf (CX P w) P w K mg base N qual scope f (.ref cA) A outer s H E) (E := E) rfl rfl rfl rfl), grA tb G H vs ρa, G, startD N.length ρa, ?_, p⟩
  · refine ⟨⟨rfl, rfl, ?_, hgd, T.sm⟩, hr, TkC.of (takes_of (X := cxOf (CX P w) P w K mg base N qual scope f (.ref cA) A outer s H E) (E := E) rfl rfl rfl rfl), rfl, S.nd, T.free⟩
    obtain ⟨h⟩ := T.err
    exact ⟨h⟩
  · have := a.start N
    rw [hl] at this
    exact this
/-- an __init__ -/
theorem FnI.of (T : Tp P K mg base errs tb fr) (F : FunD K name qual params body scope dvs [] f fd) (S : FnScope N ps scope)
    (hbody : ∀ (X : Cx) (W : WX) (cdv : Value) (A : Around) (outer : List Env) (s : Shared) (H : Hp) (E : XK), X = cxOf (CX P w) P w K mg base N qual scope f cdv A outer s H E → Bd X ⟨⟨K, mg, errs, tb⟩, ps.length⟩ W k fr → PassesOwn (model X.prog X.w) X.A X.env X.xe → Takes X W → PSs X body (tIni ⟨⟨K, mg, errs, tb⟩, ps.length⟩ W c ini)) :
    FnD P w K mg base (k + 1) f fd ps (spI ⟨K, mg, errs, tb⟩ c ps.length N.length ini) := fnI_of F S fun cdv A outer s H E hr hgd => by
  refine hbody _ _ cdv A outer s H E rfl ?_ (passes_of rfl) (takes_of (X := cxOf (CX P w) P w K mg base N qual scope f cdv A outer s H E) (E := E) rfl rfl rfl rfl)
  refine ⟨⟨rfl, rfl, ?_, hgd, T.sm⟩, hr, TkC.of (takes_of (X := cxOf (CX P w) P w K mg base N qual scope f cdv A outer s H E) (E := E) rfl rfl rfl rfl), rfl, S.nd, T.free⟩
  obtain ⟨h⟩ := T.err
  exact ⟨h⟩
end
section
variable {P : Program} {w : World} {K : PySem.W.Frag} {mg : Str → Option Value} {base : Heap} {j k : Nat} {b : Cb} {c n x : Str} {np nN : Nat} {m : M Fl} {ini : Ini} {cs : List D}
theorem CalM.mono (h : CalM P w K mg base j b c n np nN m) (l : j ≤ k) : CalM P w K mg base k b c n np nN m := by
  obtain ⟨T, g, fd, ps, h1, h2, h3, h4, F, h5⟩ := h.ex
  exact ⟨T, g, fd, ps, h1, h2, h3, h4, F.mono l, h5⟩
theorem CalP.mono (h : CalP P w K mg base j b c n nN m) (l : j ≤ k) : CalP P w K mg base k b c n nN m := by
  obtain ⟨T, p, g, fd, ps, h1, h2, h3, h4, h5, h6, F, h7⟩ := h.ex
  exact ⟨T, p, g, fd, ps, h1, h2, h3, h4, h5, h6, F.mono l, h7⟩
theorem CalI.mono (h : CalI P w K mg base j b c np nN ini cs) (l : j ≤ k) : CalI P w K mg base k b c np nN ini cs := by
  obtain ⟨T, f, fd, ps, ds, dvs, h1, h2, F, h3, h4, h5⟩ := h.ex
  exact ⟨T, f, fd, ps, ds, dvs, h1, h2, F.mono l, h3, h4, h5⟩
end
/-- slots by number -/
def SlL (K : PySem.W.Frag) (mg : Str → Option Value) (l : List (Str × Str × Nat)) : Prop := ∀ (j : Nat) (c f : Str) (i : Nat), l[j]? = some (c, f, i) → SloC K mg c f i
/-- a method may be read off an instance -/
def MthL (K : PySem.W.Frag) (mg : Str → Option Value) (c n : Str) : Prop := ∀ T, mg c = some (.ref T) → SlX.SCls K T ∧ ∀ g, PySem.W.findIn K (.ref T) n = some (some (.ref g)) → Meth K T n g
/-- the table of the lambdas that the def q makes -/
def TabOne (tb : List (Addr × Str)) (P : Addr) (q : Str) : Prop := (P, q) ∈ tb ∧ ∀ p ∈ tb, p.1 = P → p.2 = q
/-- the j-th statement of a class -/
def inCls (s : Stmt) (j : Nat) : Stmt := match s with
  | .ClassDef _ _ _ b _ _ _ _ _ _ _ => b.getD j (.Pass ⟨0, 0, 0, 0⟩)
  | _ => .Pass ⟨0, 0, 0, 0⟩
end DL
namespace DL
open PySem PySem.Spec L2
open PyProof.Rows hiding St
/-! ### what is walked: a list, a tuple, a text -/
def anyK (d : D) : Option (List D) := match lstK d with
  | some ds => some ds
  | none => match tupK d with
    | some ds => some ds
    | none => strK d
section
variable {X : Cx} {C : Cn} {W : WX} {tg e : Expr} {f : M Opd}
theorem itO_any {o : Opd} {ρ : DEnv} : itO anyK o ρ = itO lstK o ρ ∨ itO anyK o ρ = itO tupK o ρ ∨ itO anyK o ρ = itO strK o ρ := by
  unfold itO
  cases takeO o ρ with
  | none => exact .inl rfl
  | some z =>
    obtain ⟨d, ρ1⟩ := z
    dsimp only
    unfold anyK
    cases h1 : lstK d with
    | some ds => exact .inl rfl
    | none =>
      cases h2 : tupK d with
      | some ds => exact .inr (.inl rfl)
      | none => exact .inr (.inr rfl)
theorem iOf_any {ρ : DEnv} : iOf anyK f ρ = iOf lstK f ρ ∨ iOf anyK f ρ = iOf tupK f ρ ∨ iOf anyK f ρ = iOf strK f ρ := by
  unfold iOf
  cases f ρ with
  | ok o ρ1 => exact itO_any
  | exc c d ρ1 => exact .inl rfl
  | bad => exact .inl rfl
theorem di_any (hK : C.b.K = X.K) (he : PE X e (tE C W f)) : PI X tg e (tI C W (iOf anyK f)) := ⟨fun pins s σ H S I h => by
  obtain ⟨Y, G, ρ, E, p⟩ := h
  rcases iOf_any (f := f) (ρ := ρ) with q | q | q
  · exact (di_list hK he).run pins s σ H S I ⟨Y, G, ρ, E, q ▸ p⟩
  · exact (di_tup hK he).run pins s σ H S I ⟨Y, G, ρ, E, q ▸ p⟩
  · exact (di_str he).run pins s σ H S I ⟨Y, G, ρ, E, q ▸ p⟩⟩
end
end DL
namespace DL
open PySem PySem.Spec L2
open PyProof.Rows hiding St
/-! ### a tuple or a list is unpacked -/
def tgA (n : Nat) (ts : List Tg) : Tg := fun d ρ => match d with
  | .tup ds => if ds.length = n then tgGo ts ds ρ else none
  | .lst ds => if ds.length = n then tgGo ts ds ρ else none
  | _ => none
section
variable {X : Cx} {C : Cn} {es : List Expr} {ts : List Tg} {is : List Nat} {pos : Pos}
theorem dg_any {k : Nat} {n : Nat} (hK : C.b.K = X.K) (hc : X.calm = true) (h : PGs X es (tGs C is ts)) (hn : (assignEach es X.env).length = n := by rfl) (hst : (assignEach es X.env).findIdx? (·.1) = none := by rfl) : PG X (.Tuple es k pos) (tG C is (tgA n ts)) :=
  ⟨fun pins s σ H v u Q I r q => by
    obtain ⟨Y, G, ρ, d, ρ', E, dn, ht, hh⟩ := q
    cases d with
    | tup ds => exact (dg_tup hK hc h hn hst).run pins s σ H v u Q I r ⟨Y, G, ρ, .tup ds, ρ', E, dn, ht, hh⟩
    | lst ds =>
      unfold tgA at ht
      dsimp only at ht
      split at ht
      · rename_i hl
        unfold den at dn
        obtain ⟨a, vs, rfl, h1, h2⟩ := dn
        exact (pg_lst hc h hn hst).run pins s σ H _ u Q I r ⟨a, vs, rfl, by rw [← hK]; exact SqL.of (E.sub _ _ h1), by rw [← h2.len]; exact hl, Y, G, ρ, ds, ρ', E, h2, ht, hh⟩
      · cases ht
    | _ => cases ht⟩
end
end DL

set_option Elab.async false
set_option linter.all false
set_option maxRecDepth 100000
/-! a, b = (e, e'): where the pair is laid first (captured names) -/
namespace DL
open PySem PySem.Spec L2
open PyProof.Rows hiding St
section
variable {X : Cx} {C : Cn} {W : WX} {a b : Expr} {f g : M Opd} {pos : Pos}
theorem OD.laid {Y : Gr} {G H : Hp} {σ : St} {ρ : DEnv} {q : Addr} {x : HO} {o : Opd} {v : V} (h : OD C Y G σ H ρ o v) (hq : H q = none) : OD C Y G σ (upd H q x) ρ o v := by
  cases o with
  | val d => exact h
  | slot i => exact h
  | own d =>
    obtain ⟨p, rfl, gn, oa, h0, nr⟩ := h
    obtain ⟨u, hu⟩ := oa.some
    exact ⟨p, rfl, gn, oa.mono Sub.rfl (upd_ne fun z => by rw [z, hq] at hu; cases hu), h0, nr⟩
theorem ds_two {i j : Nat} {x y : Str} {px py pt : Pos} {kt k2 pt2} (hK : C.b.K = X.K) (hc : X.calm = true) (hN : X.N.Nodup) (hi : X.N[i]? = some x) (hj : X.N[j]? = some y)
    (hx : Loc X.env.scope x) (hy : Loc X.env.scope y) (fx : X.fn x = true ∨ X.env.scope.names.lookup x = some .local) (fy : X.fn y = true ∨ X.env.scope.names.lookup y = some .local) (ha : PE X a (tE C W f)) (hb : PE X b (tE C W g))
    (hs : swapsWithSole [.Tuple [.Name x px, .Name y py] kt pt] (.Tuple [a, b] k2 pt2) pos.line X.env = pure false := by rfl) (hw : swappedStores [.Tuple [.Name x px, .Name y py] kt pt] (.Tuple [a, b] k2 pt2) X.env = pure none := by rfl)
    (h1 : (assignEach [.Tuple [.Name x px, .Name y py] kt pt] X.env).map (·.2) = [assign (.Tuple [.Name x px, .Name y py] kt pt) X.env] := by rfl)
    (h2 : (assignEach [.Name x px, .Name y py] X.env).map (·.2) = assign (.Name x px) X.env :: (assignEach [.Name y py] X.env).map (·.2) := by rfl)
    (h3 : (assignEach [.Name y py] X.env).map (·.2) = assign (.Name y py) X.env :: (assignEach [] X.env).map (·.2) := by rfl)
    (hn : (assignEach [.Name x px, .Name y py] X.env).length = 2 := by rfl) (hst : (assignEach [.Name x px, .Name y py] X.env).findIdx? (·.1) = none := by rfl)
    (s1 : starEach [a, b] X.env = (false, eval a X.env) :: starEach [b] X.env := by rfl) (s2 : starEach [b] X.env = (false, eval b X.env) :: starEach [] X.env := by rfl) :
    PS X (.Assign [.Tuple [.Name x px, .Name y py] kt pt] (.Tuple [a, b] k2 pt2) pos) (tS C W (sPar C.np i j f g)) :=
  PS.st (ps_asg (pe_tup (pa_cons ha (pa_cons hb pa_nil s2) s1)) (pg_tup hc (pgs_cons (pg_name hN hi hx fx) (pgs_cons (pg_name hN hj hy fy) pgs_nil h3) h2) hn hst) hs hw h1) fun N σ H h => by
    obtain ⟨Y, G, ρ, E, p⟩ := h
    refine seq0 (C := C) (PostS.lk (σ := σ)) E p fun G1 H1 ρ1 o1 v sg1 E1 od1 p1 => ?_
    have fin : ∀ {Y : Gr} {G2 : Hp} {ρ2 : DEnv} {o1 o2 : Opd} {v w : V} {H2 : Hp}, ED C Y G2 σ H2 ρ2 → OD C Y G2 σ H2 ρ2 o1 v → OD C Y G2 σ H2 ρ2 o2 w → (∀ d d', o1 = .own d → o2 = .own d' → v ≠ w) → PostS C W N Y G2 (match rsvP o1 ρ2, rsvP o2 ρ2 with
      | some x1, some x2 => match asg C.np i x1 ρ2 with
        | some ρ3 => match asg C.np j x2 ρ3 with
          | some ρ4 => .ok .nx ρ4
          | none => .bad
        | none => .bad
      | _, _ => .bad) → [v, w].length ≤ sizeLine ∧ ∀ q, H2 q = none → gTup X.K 2 (gCons (gName i) (gCons (gName j) gNil)) (.ref q) σ (upd H2 q (.tup [v, w])) N.nx := fun {Y G2 ρ2 o1 o2 v w H2} E od1 od2 hne p =>
      ⟨by rw [sz_eq]; exact Nat.le_of_ble_eq_true rfl, fun q hq => ⟨q, [v, w], rfl, by rw [← hK]; exact SqT.of upd_same, rfl, v, [w], rfl, w, [], rfl, rfl, par_end (E.laid hq) (od1.laid hq) (od2.laid hq) hne p⟩⟩
    by_cases hown : ∃ d, o1 = .own d
    · obtain ⟨d, rfl⟩ := hown
      obtain ⟨q, rfl, gn, oa, h0, nr⟩ := od1
      obtain ⟨u, hu⟩ := oa.some
      have off := E1.offO gn h0 nr (by obtain ⟨u', hu', hq⟩ := oa.quiet; exact tabs_no E1.tb.2 hu' hq)
      have E1' := E1.hold gn hu nr
      refine ⟨Y.prot q u, G1, ρ1, E1', ?_⟩
      cases hg : g ρ1 with
      | bad => rw [hg] at p1; exact p1.elim
      | exc c d' ρ2 =>
        rw [hg] at p1
        exact fun T dx G' H' hc s E' x => p1 T dx G' σ H' hc s (E'.unprot off) x.unprot
      | ok o2 ρ2 =>
        rw [hg] at p1
        intro G2 H2 w s2 E2 od2
        obtain ⟨od2', hne⟩ := OD.unhold E2 off od2
        have oa2 : ownAt C.b G2 H2 q d := oa.mono s2 ((E2.cell off).1.trans hu.symm)
        obtain ⟨E3, od3⟩ := E2.cellO off oa2
        exact fin E3 od3 od2' (fun d1 d2 _ h2 z => hne d2 h2 z.symm) (PostS.mono s2 p1)
    · refine seq0 (C := C) (PostS.lk (σ := σ)) E1 p1 fun G2 H2 ρ2 o2 w sg2 E2 od2 p2 => ?_
      have od1' : OD C Y G2 σ H2 ρ2 o1 v := od1.mv (by cases o1 with | own d => exact (hown ⟨d, rfl⟩).elim | val _ => trivial | slot _ => trivial) sg2
      exact fin E2 od1' od2 (fun d1 _ h1 _ => (hown ⟨d1, h1⟩).elim) p2
end
end DL

set_option Elab.async false
set_option linter.all false
set_option maxRecDepth 100000
/-! xs[::-1] of a list -/
namespace DL
open PySem PySem.Spec L2
open PyProof.Rows hiding St
theorem pd_app2 {α β : Type} {F : α → β → Prop} : ∀ {a : List α} {b : List β} {c : List α} {d : List β}, Paired F a b → Paired F c d → Paired F (a ++ c) (b ++ d)
  | [], [], _, _, .nil, h => h
  | _ :: _, _ :: _, _, _, .cons h1 h2, h => .cons h1 (pd_app2 h2 h)
theorem pd_rev {α β : Type} {F : α → β → Prop} : ∀ {a : List α} {b : List β}, Paired F a b → Paired F a.reverse b.reverse
  | [], [], .nil => .nil
  | _ :: _, _ :: _, .cons h1 h2 => by
    rw [List.reverse_cons, List.reverse_cons]
    exact pd_app2 (pd_rev h2) (.cons h1 .nil)
def revF : D → Option Opd
  | .lst xs => some (.own (.lst xs.reverse))
  | _ => none
section
variable {X : Cx} {C : Cn} {W : WX} {e : Expr} {f : M Opd} {pos : Pos}
theorem wRev {k : Nat} {p1 p2 p3 : Pos} (he : PE X e (tE C W f)) : PE X (.Subscript e (.Slice none none (some (.UnaryOp .USub (.Constant (.int 1) k p1) p2)) p3) pos) (tE C W (e1 f revF)) := PE.st (pe_revL he) fun σ H Q q => by
  obtain ⟨Y, G, ρ, E, p⟩ := q
  refine seq1 (C := C) Post.lk E p fun G1 H1 ρ1 o v s1 pl E1 od p1 => ?_
  unfold fin1 at p1
  cases lk : look o ρ1 with
  | none => rw [lk] at p1; exact p1.elim
  | some d =>
    rw [lk] at p1
    dsimp only at p1
    cases d with
    | lst xs =>
      obtain ⟨a, vs, rfl, h1, h2⟩ := (look_ok E1 od lk).lst E1.sub
      refine ⟨a, vs, rfl, SqL.of h1, fun q hq => ?_⟩
      obtain ⟨E3, od3⟩ := OD.fresh (d := .lst xs.reverse) E1 hq (o := .lst vs.reverse) ⟨_, upd_same, denL_iff.mpr (pd_rev (denL_iff.mp h2))⟩
      exact p1 _ _ _ Sub.rfl E3 od3
    | _ => exact p1.elim
end
end DL

set_option Elab.async false
set_option linter.all false
set_option maxRecDepth 100000
/-! == of an own class -/
namespace DL
open PySem PySem.Spec L2
open PyProof.Rows hiding St
def eqOk (c : Str) : D → Bool
  | .obj c' _ => decide (c' = c)
  | .exc _ _ => false
  | _ => true
def eEqO (c : Str) (nN : Nat) (m : M Fl) (f g : M Opd) : M Opd := fun ρ => (nrm f ρ).bind fun x ρ1 => (nrm g ρ1).bind fun y ρ2 => match look x ρ2 with
  | some (.obj c' _) => match look y ρ2 with
    | some d => if c' = c ∧ eqOk c d = true then blOf (callM 2 nN m [x, y] ρ2) else .bad
    | none => .bad
  | _ => .bad
section
variable {X : Cx} {C : Cn} {W : WX} {k : Nat} {fr : List Str} {a b : Expr} {f g : M Opd} {c : Str} {nN : Nat} {m : M Fl} {pos : Pos}
def rEqO (C : Cn) (c : Str) (sp : Sp) (T : Addr) : R2 := fun x y H Q => ∃ o dx vs G d, x = .ref o ∧ SlX.Slt H o T dx vs ∧ Sub G H ∧ DV C.b G H d y ∧ eqOk c d = true ∧ sp [x, y] H (fun v H' => ∃ b, v = .bl b ∧ Q (.bl b) H') fun _ _ _ => False
theorem op_eqO {T h : Addr} {fd : FuncData} {ps : List Str} {sp : Sp} (hC : Ct X C) (hT : C.b.mg c = some (.ref T)) (hr : Room k X.A) (hgd : X.A.guards = some []) (hf : PySem.W.findIn X.K (.ref T) "__eq__" = some (some (.ref h))) (hi : PySem.W.isFn X.K (.ref h) = true) (F : FnD X.prog X.w X.K X.mg X.base k h fd ps sp) (hb : Binds X.K fd ps []) : OpR X (compareOp .Eq) (rEqO C c sp T) := by
  intro pins s σ H x y v u Q I rx ry q
  obtain ⟨o, dx, vs, G, d, rfl, sl, sub, dv, eo, q⟩ := q
  obtain rfl : v = Value.ref o := rx
  obtain ⟨sa, od, _, J, _⟩ := SlX.slt_inst I sl
  obtain ⟨mm, fr⟩ := I.fr
  have run := run_d (W := WF) (us := [.ref o, u]) (vs := [.ref o, y]) (σ := σ) (Q := fun z H' => ∃ b, z = .bl b ∧ Q (.bl b) H') F hr hgd hb TkC.none I (.cons rfl (.cons ry .nil)) q
  obtain ⟨tb, hl, hn⟩ : ∃ tb, PySem.W.Looks (model X.prog X.w) s.heap (typeOf u) tb ∧ PySem.W.notFirst X.K T tb = true := by
    by_cases ho : ∃ c0 fs, d = .obj c0 fs
    · obtain ⟨c0, fs, rfl⟩ := ho
      obtain rfl : c0 = c := of_decide_eq_true eo
      obtain ⟨a', dx', U, vs', rfl, hU, sl', _⟩ := dv.obj sub
      rw [hT] at hU; cases hU
      obtain rfl : u = Value.ref a' := ry
      obtain ⟨sa', od', _, J', _⟩ := SlX.slt_inst I sl'
      exact ⟨_, J'.type, by simp [PySem.W.notFirst]⟩
    · obtain ⟨n, hn⟩ : ∃ n, tyD d = some n := by
        cases d <;> first | exact ⟨_, rfl⟩ | exact absurd ⟨_, _, rfl⟩ ho | cases eo
      obtain ⟨P, Z, p, hx'⟩ := kit_of I ry (tyx_of hC.k sub dv hn)
      refine ⟨_, Z.ty _ _ I.kIn p, ?_⟩
      unfold PySem.W.notFirst
      have e : PySem.W.subIn X.K (.type n) (.ref T) = some false := ref_no (tyD_mem hn)
      rw [e]; simp
  refine PySem.W.cmp_K (op := .Eq) (tb := tb) hr.units0 fr I.ok.mod.kin J hl hn hf hi ?_
  refine wpAny_mono run (fun w s' z => ?_) fun _ _ z => z
  obtain ⟨z, H', I', rz, bb, rfl, q'⟩ := z
  exact SlX.cmpback rz ⟨.bl bb, H', I', rz, q'⟩
theorem eqO_of {T : Addr} (hT : C.b.mg c = some (.ref T)) {σ : St} {H : Hp} {Q : VK} (q : tE C W (eEqO c nN m f g) σ H Q) : tOp (rEqO C c (spM C.b 2 nN m) T) (tE C W f) (tE C W g) σ H Q := by
  obtain ⟨Y, G, ρ, E, p⟩ := q
  refine seq1 (C := C) Post.lk E p fun G1 H1 ρ1 x v s1 pl1 E1 od1 p1 => ?_
  refine seq1 (C := C) Post.lk E1 p1 fun G2 H2 ρ2 y w s2 pl2 E2 od2 p2 => ?_
  have od1' : OD C Y G2 σ H2 ρ2 x v := od1.mv pl1 s2
  split at p2
  · rename_i c' fs l
    split at p2
    · rename_i d l2
      split at p2
      · rename_i hc
        obtain ⟨rfl, ho⟩ := hc
        obtain ⟨a, dx, T', vs, rfl, hT', sl, _⟩ := (look_ok E2 od1' l).obj E2.sub
        rw [hT] at hT'; cases hT'
        refine ⟨a, dx, _, G2, d, rfl, sl, E2.sub, look_ok E2 od2 l2, ho, ?_⟩
        refine spM_of (W := WF) (σ := σ) E2 (allOD_two od1' od2) ?_
        cases hcall : callM 2 nN m [x, y] ρ2 with
        | bad => rw [hcall] at p2; exact p2
        | exc c d ρ3 => rw [hcall] at p2; exact p2.elim
        | ok o ρ3 =>
          rw [hcall] at p2
          unfold blOf at p2
          split at p2
          · rename_i bb ρ4 he
            cases he
            intro G3 H3 z s3 E3 od3
            have od3' : den C.b G3 (.bl bb) z := od3
            unfold den at od3'
            exact ⟨bb, od3', p2 G3 H3 _ s3 E3 (by unfold OD den; rfl)⟩
          · exact p2.elim
      · exact p2.elim
    · exact p2.elim
  · exact p2.elim
theorem wEqO (B : Bd X C W k fr) (cm : CalM X.prog X.w X.K X.mg X.base k C.b c "__eq__" 2 nN m) (ha : PE X a (tE C W f)) (hb : PE X b (tE C W g)) (hm : behindInMarks .Eq b = false := by with_unfolding_all rfl) : PE X (.Compare a [.Eq] [b] pos) (tE C W (eEqO c nN m f g)) := by
  obtain ⟨T, h, fd, ps, hT, h1, h2, h3, F, hbn⟩ := cm.ex
  exact PE.st (pe_cmpR (op_eqO B.ct (by rw [B.ct.mg]; exact hT) B.rm B.ct.gd h1 h2 F hbn) ha hb hm) fun _ _ _ q => eqO_of (by rw [B.ct.mg]; exact hT) q
theorem xEqO (B : Bd X C W k fr) (cm : CalM X.prog X.w X.K X.mg X.base k C.b c "__eq__" 2 nN m) (ha : PE X a (tE C W f)) (hb : PE X b (tE C W g)) (hm : behindInMarks .Eq b = false := by with_unfolding_all rfl) : PT X (.Compare a [.Eq] [b] pos) (tT C W (tV (eEqO c nN m f g))) := by
  obtain ⟨T, h, fd, ps, hT, h1, h2, h3, F, hbn⟩ := cm.ex
  exact PT.st (pt_cmpR (op_eqO B.ct (by rw [B.ct.mg]; exact hT) B.rm B.ct.gd h1 h2 F hbn) ha hb hm) fun _ _ _ q => eqO_of (by rw [B.ct.mg]; exact hT) (tB_of q)
end
end DL

set_option Elab.async false
set_option linter.all false
set_option maxRecDepth 100000
/-! != of an own class that has == alone -/
namespace DLN
open PySem PySem.Spec PyProof.Rows PySem.W
section
variable {M : Model} {prog : Program} {w : World} {A : Around} {E : Value → Shared → Prop} {s : Shared} {K : PySem.W.Frag} {x C f L : Addr} {h₀ : Heap} {m : Str → Option Value} {ox : Obj} {od : Option Obj} {b tb : Value}
theorem ifBound_objNe {args : List Value} {Q : Option Value → Shared → Prop} (X : K.In s.heap) (I : PySem.W.InstAt s.heap x ox C od) (hs : PySem.W.findIn K (.ref C) "__ne__" = some (some (.builtin "object.__ne__")))
    (h : wpAny M A (call (.builtin "object.__ne__") (.ref x :: args)) (fun v => Q (some v)) E s) : wpAny M A (callSpecialIfBound? (.ref x) "__ne__" args) Q E s := by
  simp only [callSpecialIfBound?, bindSpecialIfBound?]
  refine wpAny_holding (wpAny_bind (wpAny_bind (wpAny_bind (I.type.here ((PySem.W.looks_findIn X hs).here ?_)))))
  refine wpAny_bind (wpAny_askSetting (wpAny_ite ?_))
  have fin : wpAny M A (call (.builtin "object.__ne__") ([.ref x] ++ args) >>= fun v => pure (some v)) Q E s := wpAny_bind (wpAny_mono h (fun v s' h' => wpAny_pure h') fun _ _ h' => h')
  split
  · exact wpAny_bind (wpAny_of_eq (F.cmp_object.ne.bind _) (wpAny_pure (by exact fin)))
  · exact wpAny_tryCatch (wpAny_bind (wpAny_of_eq (F.cmp_object.ne.bind _) (wpAny_pure (by exact fin))))
theorem entry_ne (hu : A.units < cLine) (X : K.In s.heap) (I : PySem.W.InstAt s.heap x ox C od) (hs : PySem.W.findIn K (.ref C) "__eq__" = some (some (.ref f))) (hf : PySem.W.isFn K (.ref f) = true) {Q : Fin → Shared → Prop}
    (h : wpAny M A (call (.ref f) [.ref x, b]) (fun v s' => ∃ r, v = .bool r ∧ Q (.done (.ret (.bool (!r)))) s') E s) : wpAny M A (Builtin.«object.__ne__» ⟨[.ref x, b], []⟩) Q E s := by
  unfold Builtin.«object.__ne__»
  repeat (first
    | with_reducible refine wpAny_cRoomFor hu ?_
    | (refine wpAny_bind (m := callSpecialIfBound? (.ref x) (Str.ofString "__eq__") [b])
        (PySem.W.ifBound_K X I hs hf (wpAny_mono h (fun r s' hr => by
          obtain ⟨r, rfl, hq⟩ := hr
          repeat (first | exact hq | exact wpAny_pure hq | exact wpAny_truthy_bool hq | (refine wpAny_bind (m := truthy (.bool _)) (wpAny_truthy_bool ?_)) | wp_step)) fun _ _ e => e)))
    | wp_step)
theorem ne_K {Q : Value → Shared → Prop} (hu : A.units + 1 < cLine) (FF : Fr h₀ L s.heap m) (X₀ : K.In h₀) (I : InstAt s.heap x ox C od) (hb : Looks (model prog w) s.heap (typeOf b) tb) (hn : notFirst K C tb = true) (hm : PySem.W.mroIn K C (.type "object") = some true)
    (hs : findIn K (.ref C) "__eq__" = some (some (.ref f))) (hs2 : findIn K (.ref C) "__ne__" = some (some (.builtin "object.__ne__"))) (hf : isFn K (.ref f) = true)
    (h : wpAny (model prog w) A.in1 (call (.ref f) [.ref x, b]) (fun v s' => ∃ r, v = .bool r ∧ Q (.bool (!r)) s') E s) : wpAny (model prog w) A (richCompare .NotEq (.ref x) b) Q E s := by
  have X := X₀.keeps FF.keep
  have one : wpAny (model prog w) A (tryCompare (.ref x) "__ne__" b) (fun r s' => ∃ v, r = some v ∧ Q v s') E s := by
    unfold tryCompare
    refine wpAny_bind (ifBound_objNe X I hs2 (wpAny_call (codeAny_call_builtin F.cmp_object.ne.plain F.cmpEntry_ne (PySem.W.check_slot F.cmpKind_ne F.cmpSplit_ne (I.type.andThen (PySem.W.looks_mroIn X hm)) (F.cmpArgs_ne _ _)
      (entry_ne (A := A.in1) hu X I hs hf (wpAny_mono h (fun v s' hv => ?_) fun _ _ e => e))))))
    obtain ⟨r, rfl, hq⟩ := hv
    first | exact ⟨r, rfl, wpAny_pure ⟨_, rfl, hq⟩⟩ | exact ⟨r, rfl, wpAny_pure (wpAny_pure ⟨_, rfl, hq⟩)⟩
  unfold richCompare
  simp only [oneThing_ref]
  refine wpAny_holding (wpAny_bind (wpAny_cRoomFor (Nat.lt_of_succ_lt hu) ?_))
  refine wpAny_bind (I.type.here (wpAny_bind (hb.here ?_)))
  split
  · rename_i q
    have e : subIn K tb (.ref C) = some false := by
      rcases Bool.or_eq_true_iff.mp hn with e | e
      · rw [beq_iff_eq.mp e] at q; simp at q
      · exact beq_iff_eq.mp e
    refine wpAny_bind ((looks_subIn X e).here ?_)
    simp only [Bool.false_eq_true, if_false]
    refine wpAny_bind (wpAny_mono one (fun r s' z => ?_) fun _ _ e => e)
    obtain ⟨v, rfl, hq⟩ := z
    exact wpAny_pure hq
  · refine wpAny_bind (wpAny_pure ?_)
    simp only [Bool.false_eq_true, if_false]
    refine wpAny_bind (wpAny_mono one (fun r s' z => ?_) fun _ _ e => e)
    obtain ⟨v, rfl, hq⟩ := z
    exact wpAny_pure hq
end
end DLN
namespace DL
open PySem PySem.Spec L2
open PyProof.Rows hiding St
def notOf (r : R Opd) : R Opd := match r with
  | .ok (.val (.bl b)) ρ => .ok (.val (.bl (!b))) ρ
  | _ => .bad
def eNeO (c : Str) (nN : Nat) (m : M Fl) (f g : M Opd) : M Opd := fun ρ => (nrm f ρ).bind fun x ρ1 => (nrm g ρ1).bind fun y ρ2 => match look x ρ2 with
  | some (.obj c' _) => match look y ρ2 with
    | some d => if c' = c ∧ eqOk c d = true then notOf (callM 2 nN m [x, y] ρ2) else .bad
    | none => .bad
  | _ => .bad
section
variable {X : Cx} {C : Cn} {W : WX} {k : Nat} {fr : List Str} {a b : Expr} {f g : M Opd} {c : Str} {nN : Nat} {m : M Fl} {pos : Pos} {l : List Str}
def rNeO (C : Cn) (c : Str) (sp : Sp) (T : Addr) : R2 := fun x y H Q => ∃ o dx vs G d, x = .ref o ∧ SlX.Slt H o T dx vs ∧ Sub G H ∧ DV C.b G H d y ∧ eqOk c d = true ∧ sp [x, y] H (fun v H' => ∃ b, v = .bl b ∧ Q (.bl (!b)) H') fun _ _ _ => False
theorem op_neO {T h : Addr} {fd : FuncData} {ps : List Str} {sp : Sp} (hC : Ct X C) (hT : C.b.mg c = some (.ref T)) (oc : ownCls X.K c T = true) (hr : Room (k + 1) X.A) (hgd : X.A.guards = some []) (hf : PySem.W.findIn X.K (.ref T) "__eq__" = some (some (.ref h))) (hi : PySem.W.isFn X.K (.ref h) = true) (F : FnD X.prog X.w X.K X.mg X.base k h fd ps sp) (hb : Binds X.K fd ps []) : OpR X (compareOp .NotEq) (rNeO C c sp T) := by
  intro pins s σ H x y v u Q I rx ry q
  obtain ⟨o, dx, vs, G, d, rfl, sl, sub, dv, eo, q⟩ := q
  obtain rfl : v = Value.ref o := rx
  obtain ⟨sa, od, _, J, _⟩ := SlX.slt_inst I sl
  obtain ⟨mm, fr⟩ := I.fr
  have bb := hb s [.ref o, u] I.kIn (by rw [List.append_nil]; exact F.cnt [.ref o, y] _ _ _ q)
  rw [List.append_nil] at bb
  have run : wpAny (model X.prog X.w) X.A.in1 (call (.ref h) [.ref o, u]) (EP X pins σ fun z H' => ∃ b, z = .bl b ∧ Q (.bl (!b)) H') X.xe s := by
    refine wpAny_call (codeAny_mono (F.go X.A.in1 X.stack s H ⟨[.ref o, u], []⟩ [.ref o, u] [.ref o, y] (fun z H' => ∃ b, z = .bl b ∧ Q (.bl (!b)) H') _ hr.in1 hgd I.env0.in1 bb (.cons rfl (.cons ry .nil)) q) fun r s' hq => ?_)
    match r, hq with
    | .error e, hq =>
      obtain ⟨_, _, _, _, _, _, _, _, _, _, _, _, z⟩ := hq
      exact z.elim
    | .ok (.ret u), hq => exact I.after hq
  obtain ⟨tb, hl, hn⟩ : ∃ tb, PySem.W.Looks (model X.prog X.w) s.heap (typeOf u) tb ∧ PySem.W.notFirst X.K T tb = true := by
    by_cases ho : ∃ c0 fs, d = .obj c0 fs
    · obtain ⟨c0, fs, rfl⟩ := ho
      obtain rfl : c0 = c := of_decide_eq_true eo
      obtain ⟨a', dx', U, vs', rfl, hU, sl', _⟩ := dv.obj sub
      rw [hT] at hU; cases hU
      obtain rfl : u = Value.ref a' := ry
      obtain ⟨sa', od', _, J', _⟩ := SlX.slt_inst I sl'
      exact ⟨_, J'.type, by simp [PySem.W.notFirst]⟩
    · obtain ⟨n, hn⟩ : ∃ n, tyD d = some n := by
        cases d <;> first | exact ⟨_, rfl⟩ | exact absurd ⟨_, _, rfl⟩ ho | cases eo
      obtain ⟨P, Z, p, hx'⟩ := kit_of I ry (tyx_of hC.k sub dv hn)
      refine ⟨_, Z.ty _ _ I.kIn p, ?_⟩
      unfold PySem.W.notFirst
      have e : PySem.W.subIn X.K (.type n) (.ref T) = some false := ref_no (tyD_mem hn)
      rw [e]; simp
  show wpAny _ _ (richCompare .NotEq _ _) _ _ _
  refine DLN.ne_K (tb := tb) hr.in1.units0 fr I.ok.mod.kin J hl hn (sisi_own oc).cm hf (ownCls_ne oc) hi ?_
  refine wpAny_mono run (fun w s' z => ?_) fun _ _ z => z
  obtain ⟨z, H', I', rz, bb, rfl, q'⟩ := z
  cases (show w = Value.bool bb from rz)
  exact ⟨bb, rfl, .bl (!bb), H', I', rfl, q'⟩
theorem neO_of {T : Addr} (hT : C.b.mg c = some (.ref T)) {σ : St} {H : Hp} {Q : VK} (q : tE C W (eNeO c nN m f g) σ H Q) : tOp (rNeO C c (spM C.b 2 nN m) T) (tE C W f) (tE C W g) σ H Q := by
  obtain ⟨Y, G, ρ, E, p⟩ := q
  refine seq1 (C := C) Post.lk E p fun G1 H1 ρ1 x v s1 pl1 E1 od1 p1 => ?_
  refine seq1 (C := C) Post.lk E1 p1 fun G2 H2 ρ2 y w s2 pl2 E2 od2 p2 => ?_
  have od1' : OD C Y G2 σ H2 ρ2 x v := od1.mv pl1 s2
  split at p2
  · rename_i c' fs l
    split at p2
    · rename_i d l2
      split at p2
      · rename_i hc
        obtain ⟨rfl, ho⟩ := hc
        obtain ⟨a, dx, T', vs, rfl, hT', sl, _⟩ := (look_ok E2 od1' l).obj E2.sub
        rw [hT] at hT'; cases hT'
        refine ⟨a, dx, _, G2, d, rfl, sl, E2.sub, look_ok E2 od2 l2, ho, ?_⟩
        refine spM_of (W := WF) (σ := σ) E2 (allOD_two od1' od2) ?_
        cases hcall : callM 2 nN m [x, y] ρ2 with
        | bad => rw [hcall] at p2; exact p2
        | exc c d ρ3 => rw [hcall] at p2; exact p2.elim
        | ok o ρ3 =>
          rw [hcall] at p2
          unfold notOf at p2
          split at p2
          · rename_i bb ρ4 he
            cases he
            intro G3 H3 z s3 E3 od3
            have od3' : den C.b G3 (.bl bb) z := od3
            unfold den at od3'
            exact ⟨bb, od3', p2 G3 H3 _ s3 E3 (by unfold OD den; rfl)⟩
          · exact p2.elim
      · exact p2.elim
    · exact p2.elim
  · exact p2.elim
theorem wNeO (B : Bd X C W (k + 1) fr) (cm : CalM X.prog X.w X.K X.mg X.base k C.b c "__eq__" 2 nN m) (O : OwnL C.b.K C.b.mg l) (ha : PE X a (tE C W f)) (hb : PE X b (tE C W g)) (hc : c ∈ l := by decide) (hm : behindInMarks .NotEq b = false := by with_unfolding_all rfl) : PE X (.Compare a [.NotEq] [b] pos) (tE C W (eNeO c nN m f g)) := by
  obtain ⟨T, h, fd, ps, hT, h1, h2, h3, F, hbn⟩ := cm.ex
  have hT' : C.b.mg c = some (.ref T) := by rw [B.ct.mg]; exact hT
  obtain ⟨T0, hT0, _, oc⟩ := O c hc
  rw [hT'] at hT0; cases hT0
  exact PE.st (pe_cmpR (op_neO B.ct hT' (by rw [← B.ct.k]; exact oc) B.rm B.ct.gd h1 h2 F hbn) ha hb hm) fun _ _ _ q => neO_of hT' q
theorem xNeO (B : Bd X C W (k + 1) fr) (cm : CalM X.prog X.w X.K X.mg X.base k C.b c "__eq__" 2 nN m) (O : OwnL C.b.K C.b.mg l) (ha : PE X a (tE C W f)) (hb : PE X b (tE C W g)) (hc : c ∈ l := by decide) (hm : behindInMarks .NotEq b = false := by with_unfolding_all rfl) : PT X (.Compare a [.NotEq] [b] pos) (tT C W (tV (eNeO c nN m f g))) := by
  obtain ⟨T, h, fd, ps, hT, h1, h2, h3, F, hbn⟩ := cm.ex
  have hT' : C.b.mg c = some (.ref T) := by rw [B.ct.mg]; exact hT
  obtain ⟨T0, hT0, _, oc⟩ := O c hc
  rw [hT'] at hT0; cases hT0
  exact PT.st (pt_cmpR (op_neO B.ct hT' (by rw [← B.ct.k]; exact oc) B.rm B.ct.gd h1 h2 F hbn) ha hb hm) fun _ _ _ q => neO_of hT' (tB_of q)
end
end DL

set_option Elab.async false
set_option linter.all false
set_option maxRecDepth 100000
set_option maxHeartbeats 1000000
/-! xs.index(x) -/
namespace DL
open PySem PySem.Spec L2
open PyProof.Rows hiding St
def lidxF (l y : D) : Option Opd := match l with
  | .lst ds => match toPy y, toPyL ds with
    | some p, some ps => if SeqAt.shaped p && SeqAt.shaped (.list ps) then (ps.findIdx? fun z => PyData.eqv z p).map fun j => .val (.int (j : Nat)) else none
    | _, _ => none
  | _ => none
def isLst : D → Bool
  | .lst _ => true
  | _ => false
/-- a method of a list that only reads -/
def eL1 (f g : M Opd) (F : D → D → Option Opd) : M Opd := fun ρ => (nrm f ρ).bind fun x ρ1 => match look x ρ1 with
  | some d => if isLst d = true then (eA [g] ρ1).bind fun os ρ2 => match os with
    | [y] => fin2 F x y ρ2
    | _ => .bad
    else .bad
  | none => .bad
theorem lidxD {C : Cn} {K : PySem.W.Frag} (hK : C.b.K = K) : OpD C lidxF fun x y H Q => rIndexD K x [y] H Q := by
  intro Y G σ H ρ Q x y dx dy o E x1 x2 hf af
  unfold lidxF at hf
  split at hf
  · rename_i ds
    split at hf
    · rename_i p ps e1 e2
      split at hf
      · rename_i hs
        obtain ⟨s1, s2⟩ := Bool.and_eq_true_iff.mp hs
        cases hj : ps.findIdx? fun z => PyData.eqv z p with
        | none => rw [hj] at hf; cases hf
        | some j =>
          rw [hj] at hf
          cases hf
          obtain ⟨hl, h1, h2⟩ := List.findIdx?_eq_some_iff_getElem.mp hj
          obtain ⟨a, vs, rfl, _, _⟩ := x1.lst E.sub
          refine ⟨a, y, p, ps, j, ps[j], rfl, rfl, dv_dp hK E.sub x1 (by unfold toPy; rw [e2]; rfl) (noDict_shaped s2), dv_dp hK E.sub x2 e1 (noDict_shaped s1), s2, s1, List.getElem?_eq_getElem hl, h1, fun m z' hm hz => ?_, af.int E⟩
          obtain ⟨hm', rfl⟩ := List.getElem?_eq_some_iff.mp hz
          have := h2 m hm
          simpa using this
      · cases hf
    · cases hf
  · cases hf
section
variable {X : Cx} {C : Cn} {W : WX} {k : Nat} {fr : List Str} {a e : Expr} {f g : M Opd} {pos : Pos}
theorem wIndex (B : Bd X C W k fr) {apos : Pos} (ho : PE X a (tE C W f)) (he : PE X e (tE C W g))
    (hbase : attributeBase a "index" X.env (eval a X.env) = eval a X.env := by rfl)
    (hfew : ((backTo pos (starEach [e] X.env)).all (fun x => !x.1) && (backToKw pos (keywordEach [] X.env)).all (fun x => x.1.isSome)
      && decide (([e] : List Expr).length + ([] : List Keyword).length + (if ([] : List Keyword).isEmpty then 0 else 1) < 30)) = true := by rfl)
    (hline : (apos.endLine == pos.line) = true := by rfl) (hs : starEach [e] X.env = (false, eval e X.env) :: starEach [] X.env := by rfl) (hplain : (backTo pos (starEach [] X.env)).any (·.1) = false := by rfl) :
    PE X (.Call (.Attribute a "index" apos) [e] [] pos) (tE C W (eL1 f g lidxF)) :=
  PE.st (pe_bm PySem.F.plainAttrs_list PySem.F.slot_list_index PySem.F.type_list_index (mt_indexD (Room.u65 B.rm)) ho (da_cons he da_nil hs) hbase hfew hline hs hplain) fun σ H Q q => by
    obtain ⟨Y, G, ρ, E, p⟩ := q
    refine seq1 (C := C) Post.lk E p fun G1 H1 ρ1 x v s1 pl1 E1 od1 p1 => ?_
    cases l : look x ρ1 with
    | none => rw [l] at p1; exact p1.elim
    | some d =>
      rw [l] at p1
      dsimp only at p1
      split at p1
      · rename_i hd
        cases d with
        | lst xs =>
          refine ⟨?_, ?_⟩
          · obtain ⟨q, vs, rfl, h1, _⟩ := (look_ok E1 od1 l).lst E1.sub
            exact .inl ⟨rfl, vs, SqL.of h1⟩
          · refine seqAp (C := C) Post.lk E1 p1 fun G2 H2 ρ2 os vs s2 pl2 E2 ods p2 => ?_
            split at p2
            · rename_i y
              obtain ⟨w, r, rfl, od2, hr⟩ := ods
              cases hr
              exact fin2_ok (r := fun x y H Q => rIndexD X.K x [y] H Q) (lidxD B.ct.k) (P := fun G r => Post C W Q Y G σ r) E2 (od1.mv pl1 s2) od2 p2 (fun q => q) (fun q => q)
            · exact p2.elim
        | _ => cases hd
      · exact p1.elim
end
end DL

set_option Elab.async false
set_option linter.all false
set_option maxRecDepth 100000
set_option maxHeartbeats 1000000
/-! a, b, c = e, f, g -/
namespace DL
open PySem PySem.Spec L2
open PyProof.Rows hiding St
section
variable {C : Cn} {Y : Gr} {G H : Hp} {σ : St} {ρ : DEnv} {o : Opd} {v : V}
theorem pl_of (h : ¬ ∃ d, o = .own d) : Pl o := by
  cases o with
  | own d => exact (h ⟨d, rfl⟩).elim
  | val _ => trivial
  | slot _ => trivial
/-- any operand is held while more is reckoned -/
theorem ED.heldO (E : ED C Y G σ H ρ) (od : OD C Y G σ H ρ o v) : ∃ Y', ED C Y' G σ H ρ ∧ (∀ {G' H' dx d}, XD C.b Y' G' H' dx d → XD C.b Y G' H' dx d) ∧
    ∀ {G2 H2 ρ2}, Sub G G2 → ED C Y' G2 σ H2 ρ2 → ED C Y G2 σ H2 ρ2 ∧ OD C Y G2 σ H2 ρ2 o v ∧ ∀ {o2 w}, OD C Y' G2 σ H2 ρ2 o2 w → OD C Y G2 σ H2 ρ2 o2 w ∧ ∀ d d', o = .own d → o2 = .own d' → v ≠ w := by
  by_cases hown : ∃ d, o = .own d
  · obtain ⟨d, rfl⟩ := hown
    obtain ⟨q, rfl, gn, oa, h0, nr⟩ := od
    obtain ⟨u, hu⟩ := oa.some
    have off := E.offO gn h0 nr (by obtain ⟨u', hu', hq⟩ := oa.quiet; exact tabs_no E.tb.2 hu' hq)
    refine ⟨Y.prot q u, E.hold gn hu nr, fun x => x.unprot, fun {G2 H2 ρ2} s E2 => ?_⟩
    have oa2 : ownAt C.b G2 H2 q d := oa.mono s ((E2.cell off).1.trans hu.symm)
    obtain ⟨E3, od3⟩ := E2.cellO off oa2
    refine ⟨E3, od3, fun {o2 w} h => ?_⟩
    obtain ⟨h1, h2⟩ := OD.unhold E2 off h
    exact ⟨h1, fun d1 d2 _ h3 z => h2 d2 h3 z.symm⟩
  · exact ⟨Y, E, fun x => x, fun {G2 H2 ρ2} s E2 => ⟨E2, od.mv (pl_of hown) s, fun {o2 w} h => ⟨h, fun d1 _ h1 _ => (hown ⟨d1, h1⟩).elim⟩⟩⟩
end
def sPar3 (np i j l : Nat) (f g h : M Opd) : M Fl := fun ρ => (f ρ).bind fun o1 ρ1 => (g ρ1).bind fun o2 ρ2 => (h ρ2).bind fun o3 ρ3 => match rsvP o1 ρ3, rsvP o2 ρ3, rsvP o3 ρ3 with
  | some x1, some x2, some x3 => match asg np i x1 ρ3 with
    | some ρ4 => match asg np j x2 ρ4 with
      | some ρ5 => match asg np l x3 ρ5 with
        | some ρ6 => .ok .nx ρ6
        | none => .bad
      | none => .bad
    | none => .bad
  | _, _, _ => .bad
section
variable {X : Cx} {C : Cn} {W : WX} {a b c e : Expr} {f g h : M Opd} {k : Nat} {fr : List Str} {pos : Pos}
theorem par_end3 {Y : Gr} {G : Hp} {σ : St} {H : Hp} {ρ : DEnv} {N : Ends} {o1 o2 o3 : Opd} {v w z : V} {i j l : Nat} (E : ED C Y G σ H ρ) (od1 : OD C Y G σ H ρ o1 v) (od2 : OD C Y G σ H ρ o2 w) (od3 : OD C Y G σ H ρ o3 z)
    (n12 : ∀ d d', o1 = .own d → o2 = .own d' → v ≠ w) (n13 : ∀ d d', o1 = .own d → o3 = .own d' → v ≠ z) (n23 : ∀ d d', o2 = .own d → o3 = .own d' → w ≠ z)
    (p : PostS C W N Y G (match rsvP o1 ρ, rsvP o2 ρ, rsvP o3 ρ with
      | some x1, some x2, some x3 => match asg C.np i x1 ρ with
        | some ρ4 => match asg C.np j x2 ρ4 with
          | some ρ5 => match asg C.np l x3 ρ5 with
            | some ρ6 => .ok .nx ρ6
            | none => .bad
          | none => .bad
        | none => .bad
      | _, _, _ => .bad)) : N.nx (((σ.set i (some v)).set j (some w)).set l (some z)) H := by
  cases e1 : rsvP o1 ρ with
  | none => rw [e1] at p; exact p.elim
  | some x1 =>
    cases e2 : rsvP o2 ρ with
    | none => rw [e1, e2] at p; exact p.elim
    | some x2 =>
      cases e3 : rsvP o3 ρ with
      | none => rw [e1, e2, e3] at p; exact p.elim
      | some x3 =>
        rw [e1, e2, e3] at p
        dsimp only at p
        obtain ⟨y1, t1⟩ := rsvP_ok E od1 e1
        obtain ⟨y2, t2⟩ := rsvP_ok E od2 e2
        obtain ⟨y3, t3⟩ := rsvP_ok E od3 e3
        cases e4 : asg C.np i x1 ρ with
        | none => rw [e4] at p; exact p.elim
        | some ρ4 =>
          rw [e4] at p
          dsimp only at p
          have E4 := asg_ok E y1 e4
          have y2' := OD.stored (v := v) e4 y2 (rsvP_pl e2) fun d d' h h' => n12 d d' (t1 d h) (t2 d' h')
          have y3' := OD.stored (v := v) e4 y3 (rsvP_pl e3) fun d d' h h' => n13 d d' (t1 d h) (t3 d' h')
          cases e5 : asg C.np j x2 ρ4 with
          | none => rw [e5] at p; exact p.elim
          | some ρ5 =>
            rw [e5] at p
            dsimp only at p
            have E5 := asg_ok E4 y2' e5
            have y3'' := OD.stored (v := w) e5 y3' (rsvP_pl e3) fun d d' h h' => n23 d d' (t2 d h) (t3 d' h')
            cases e6 : asg C.np l x3 ρ5 with
            | none => rw [e6] at p; exact p.elim
            | some ρ6 =>
              rw [e6] at p
              exact p G _ H Sub.rfl (asg_ok E5 y3'' e6)
theorem ds_par3 {i j l : Nat} {x y z : Str} {px py pz pt : Pos} {kt k2 pt2} (hc : X.calm = true) (hN : X.N.Nodup) (hi : X.N[i]? = some x) (hj : X.N[j]? = some y) (hl : X.N[l]? = some z) (hij : i ≠ j) (hil : i ≠ l) (hjl : j ≠ l)
    (hx : X.env.scope.names.lookup x = some .local) (hy : X.env.scope.names.lookup y = some .local) (hz : X.env.scope.names.lookup z = some .local) (ha : PE X a (tE C W f)) (hb : PE X b (tE C W g)) (hd : PE X c (tE C W h))
    (hw : swappedStores [.Tuple [.Name x px, .Name y py, .Name z pz] kt pt] (.Tuple [a, b, c] k2 pt2) X.env = pure (some [x, y, z]))
    (hs : swapsWithSole [.Tuple [.Name x px, .Name y py, .Name z pz] kt pt] (.Tuple [a, b, c] k2 pt2) pos.line X.env = pure false := by rfl)
    (s1 : starEach [a, b, c] X.env = (false, eval a X.env) :: starEach [b, c] X.env := by rfl) (s2 : starEach [b, c] X.env = (false, eval b X.env) :: starEach [c] X.env := by rfl) (s3 : starEach [c] X.env = (false, eval c X.env) :: starEach [] X.env := by rfl) :
    PS X (.Assign [.Tuple [.Name x px, .Name y py, .Name z pz] kt pt] (.Tuple [a, b, c] k2 pt2) pos) (tS C W (sPar3 C.np i j l f g h)) :=
  PS.st (ps_par3 hc hN hi hj hl hij hil hjl hx hy hz (pa_cons ha (pa_cons hb (pa_cons hd pa_nil s3) s2) s1) hw hs) fun N σ H q => by
    obtain ⟨Y, G, ρ, E, p⟩ := q
    refine seq0 (C := C) (PostS.lk (σ := σ)) E p fun G1 H1 ρ1 o1 v sg1 E1 od1 p1 => ?_
    obtain ⟨Y1, E1', ex1, back1⟩ := E1.heldO od1
    refine ⟨Y1, G1, ρ1, E1', ?_⟩
    cases hg : g ρ1 with
    | bad => rw [hg] at p1; exact p1.elim
    | exc c d' ρ2 =>
      rw [hg] at p1
      exact fun T dx G' H' hc s E' x => p1 T dx G' σ H' hc s (back1 s E').1 (ex1 x)
    | ok o2 ρ2 =>
      rw [hg] at p1
      intro G2 H2 w s2 E2 od2
      obtain ⟨Y2, E2', ex2, back2⟩ := E2.heldO od2
      refine ⟨Y2, G2, ρ2, E2', ?_⟩
      have p2 : PostS C W N Y G1 ((h ρ2).bind fun o3 ρ3 => _) := p1
      cases hh : h ρ2 with
      | bad => rw [hh] at p2; exact p2.elim
      | exc c d' ρ3 =>
        rw [hh] at p2
        intro T dx G' H' hc s E' x
        have b2 := (back2 s E').1
        exact p2 T dx G' σ H' hc (s2.trans s) (back1 (s2.trans s) b2).1 (ex1 (ex2 x))
      | ok o3 ρ3 =>
        rw [hh] at p2
        intro G3 H3 x s3 E3 od3
        obtain ⟨E4, od2', un2⟩ := back2 s3 E3
        obtain ⟨od3', n23⟩ := un2 od3
        obtain ⟨E5, od1', un1⟩ := back1 (s2.trans s3) E4
        obtain ⟨od2'', n12⟩ := un1 od2'
        obtain ⟨od3'', n13⟩ := un1 od3'
        exact ⟨_, _, _, rfl, par_end3 E5 od1' od2'' od3'' n12 n13 n23 (PostS.mono (s2.trans s3) p2)⟩
theorem sPar3_ok {np i j l : Nat} {ρ ρ1 ρ2 ρ3 ρ4 ρ5 ρ6 : DEnv} {o1 o2 o3 x1 x2 x3 : Opd} (h1 : f ρ = .ok o1 ρ1) (h2 : g ρ1 = .ok o2 ρ2) (h3 : h ρ2 = .ok o3 ρ3) (r1 : rsvP o1 ρ3 = some x1) (r2 : rsvP o2 ρ3 = some x2) (r3 : rsvP o3 ρ3 = some x3) (a1 : asg np i x1 ρ3 = some ρ4) (a2 : asg np j x2 ρ4 = some ρ5) (a3 : asg np l x3 ρ5 = some ρ6) : sPar3 np i j l f g h ρ = .ok .nx ρ6 := by
  show (f ρ).bind _ = _
  rw [h1, R.bind_ok]
  show (g ρ1).bind _ = _
  rw [h2, R.bind_ok]
  show (h ρ2).bind _ = _
  rw [h3, R.bind_ok, r1, r2, r3]
  dsimp only
  rw [a1]
  dsimp only
  rw [a2]
  dsimp only
  rw [a3]
end
end DL

set_option Elab.async false
set_option linter.all false
set_option maxRecDepth 100000
set_option maxHeartbeats 2000000
/-! What the top leaves, read by names: defs, classes of errors, the module's own dict of modules. -/
namespace DL
open PySem PySem.Spec L2 PySem.W PySem.Calls HandSPX
open PyProof.Rows hiding St

def clsOk (c : Str) (B T : Addr) : Option Obj → Bool
  | some ⟨.type t, _, .cls cd, sl⟩ => (match sl.toList with
    | [_, _, _, _, some (.builtin n), _] => decide (n = "ValueError.__new__")
    | _ => false) && (decide (t = "type") && (decide (cd.name = c) && (decide (cd.mro = .ref T :: (if c = "HomeError" then veTail else .ref B :: veTail)) && (cd.hasDict && !cd.hasDel))))
  | _ => false
theorem clsOk_ok {c : Str} {B T : Addr} {x : Option Obj} (h : clsOk c B T x = true) : ∃ q N bs sn sub ab col dd k0 k1 k2 k3 k5, x = some (excClassObj c q T N bs (if c = "HomeError" then veTail else .ref B :: veTail) true sn sub ab col dd k0 k1 k2 k3 k5 "ValueError.__new__") := by
  unfold clsOk at h
  split at h
  · rename_i t dd cd sl
    obtain ⟨h1, h⟩ := He.ba h
    obtain ⟨h2, h⟩ := He.ba h
    obtain ⟨h3, h⟩ := He.ba h
    obtain ⟨h4, h⟩ := He.ba h
    obtain ⟨h5, h6⟩ := He.ba h
    have h2 := of_decide_eq_true h2
    have h3 := of_decide_eq_true h3
    have h4 := of_decide_eq_true h4
    split at h1
    · rename_i k0 k1 k2 k3 n k5 hs
      have h1 := of_decide_eq_true h1
      obtain ⟨nm, bs, mro, ns, qn, hd, sn, sub, ab, col, del⟩ := cd
      dsimp only at h3 h4 h5 h6
      have h6 : del = false := by simpa using h6
      subst h2 h3 h4 h5 h6 h1
      have hsl : sl = #[k0, k1, k2, k3, some (.builtin "ValueError.__new__"), k5] := by
        rw [← hs, Array.toArray_toList]
      subst hsl
      exact ⟨qn, ns, bs, sn, sub, ab, col, dd, k0, k1, k2, k3, k5, rfl⟩
    · cases h1
  · cases h
def fiA (K : Frag) (B : Addr) : Addr := match findIn K (.ref B) "__init__" with
  | some (some (.ref a)) => a
  | _ => 0
def refOf : Value → Addr
  | .ref a => a
  | _ => 0
def errOk (K : Frag) (B : Addr) (c : Str) : Bool :=
  He.eqO (nsIn K mainGlobals c) (some (some (.ref (He.ga K c)))) && (clsOk c B (He.ga K c) (K.lookup (He.ga K c)) && (He.eqO (findIn K (.ref (He.ga K c)) "__setattr__") (some (some (.builtin "object.__setattr__"))) &&
    (He.eqO (findIn K (.ref (He.ga K c)) "__getattribute__") (some (some (.builtin "BaseException.__getattribute__"))) && (He.eqO (findIn K (.ref (He.ga K c)) "__getattr__") (some none) && (He.eqO (findIn K (.ref (He.ga K c)) "value") (some none) &&
    (He.eqO (findIn K (.ref (He.ga K c)) "__init__") (some (some (.ref (fiA K B)))) && (He.eqO (findIn K (.ref (He.ga K c)) "__class__") (some (some (.builtin "object.__class__"))) && keepIn K (.ref (He.ga K c)))))))))
/-- HomeError's __init__ -/
def iniOf (K : Frag) : Option (Str × Str × Arguments × FuncBody × Scope × Addr × List Str × Value × Addr) := match K.lookup (fiA K (He.ga K "HomeError")) with
  | some ⟨_, _, .func fd, _⟩ => some (fd.name, fd.qualname, fd.params, fd.body, fd.scope, fd.globals, fd.closure.map (·.1), fd.defaults, fd.builtins)
  | _ => none
def iniVal : Option (Str × Str × Arguments × FuncBody × Scope × Addr × List Str × Value × Addr) := some ("__init__", "HomeError.__init__", heA ⟨4, 17, 4, 21⟩ ⟨4, 23, 4, 28⟩, .stmts heB, heS, mainGlobals, ["__class__"], .none, builtinsNs)
def iniOk (p : Program) (K : Frag) : Bool := match K.lookup (fiA K (He.ga K "HomeError")) with
  | some ⟨_, _, .func fd, _⟩ => (match fd.closure, fd.code with
    | [(_, cc)], .ref cda => (match K.lookup cc with
      | some ⟨_, _, .cell (some (.ref b)), _⟩ => decide (b = He.ga K "HomeError")
      | _ => false) && ((match K.lookup cda with
      | some ⟨_, _, .fields vs, _⟩ => (match (vs[2]? : Option Value) with
        | some (Value.str file _) => ((p.main.file : Str) == file)
        | _ => false)
      | _ => false) && codeIn K fd.code "HomeError.__init__")
    | _, _ => false) && (decide (typeIn K (.ref (fiA K (He.ga K "HomeError"))) = some (.type "function")))
  | _ => false
def baseOk (p : Program) (K : Frag) : Bool := iniOk p K && (He.eqO (nsIn K cStatics "thirdparty.any") (some none) && (He.eqO (nsIn K mainGlobals "super") (some none) && ((clsIn K (He.ga K "HomeError")).isSome && (!(p.main.scope.names.lookup ("super" : Str)).isSome && (K.lookup sysModules).isSome))))
theorem errT_of {K : Frag} {c : Str} (h : errOk K (He.ga K "HomeError") c = true) : nsIn K mainGlobals c = some (some (.ref (He.ga K c))) ∧ ErrT K (He.ga K "HomeError") (fiA K (He.ga K "HomeError")) c (He.ga K c) := by
  unfold errOk at h
  obtain ⟨h0, h⟩ := He.ba h
  obtain ⟨h1, h⟩ := He.ba h
  obtain ⟨h2, h⟩ := He.ba h
  obtain ⟨h3, h⟩ := He.ba h
  obtain ⟨h4, h⟩ := He.ba h
  obtain ⟨h5, h⟩ := He.ba h
  obtain ⟨h6, h⟩ := He.ba h
  obtain ⟨h7, h8⟩ := He.ba h
  exact ⟨He.eqO_ok h0, clsOk_ok h1, fun e => by rw [e], He.eqO_ok h2, He.eqO_ok h3, He.eqO_ok h4, He.eqO_ok h5, He.eqO_ok h6, He.eqO_ok h7, h8⟩
theorem baseT_of {p : Program} {K : Frag} {h : Heap} {mg : Str → Option Value} (X : K.In h) (G : h.Ns mainGlobals mg) (hb : baseOk p K = true) (hi : iniOf K = iniVal) : (∃ o, K.lookup sysModules = some o) ∧ ∃ cc cda, BaseT p K mg (He.ga K "HomeError") (fiA K (He.ga K "HomeError")) cc cda := by
  unfold baseOk at hb
  obtain ⟨h0, hb⟩ := He.ba hb
  obtain ⟨h1, hb⟩ := He.ba hb
  obtain ⟨h2, hb⟩ := He.ba hb
  obtain ⟨h3, hb⟩ := He.ba hb
  obtain ⟨h4, h5⟩ := He.ba hb
  unfold iniOk at h0
  unfold iniOf iniVal at hi
  refine ⟨Option.isSome_iff_exists.mp h5, ?_⟩
  split at h0
  · rename_i oc od fd osl hlk
    rw [hlk] at hi
    dsimp only at hi
    obtain ⟨h0, h6⟩ := He.ba h0
    split at h0
    · rename_i cn cc cda hcl hcd
      obtain ⟨h7, h0⟩ := He.ba h0
      obtain ⟨h8, h9⟩ := He.ba h0
      split at h7
      · rename_i cl cld b csl hcell
        have h7 := of_decide_eq_true h7
        subst h7
        split at h8
        · rename_i kl kd vs ksl hcode
          split at h8
          · rename_i file tf hv
            obtain ⟨n1, n2, n3, n4, n5, n6, n7, n8, n9, n10, n11, n12, n13, n14, n15⟩ := fd
            dsimp only at hi hcl hcd h9
            simp only [Option.some.injEq, Prod.mk.injEq] at hi
            obtain ⟨rfl, rfl, rfl, rfl, rfl, rfl, hn, rfl, rfl⟩ := hi
            subst hcl
            subst hcd
            have hn : cn = ("__class__" : Str) := by simpa using hn
            subst hn
            exact ⟨cc, cda, Option.isSome_iff_exists.mp h3, of_decide_eq_true h6, He.eqO_ok h1, He.free_ok X G h2, by simpa using h4, ⟨_, _, _, _, _, _, _, _, _, _, hlk, h9⟩, ⟨_, _, _, _, _, _, hcode, hv, h8⟩, ⟨_, _, _, hcell⟩⟩
          · cases h8
        · cases h8
      · cases h7
    · cases h0
  · cases h0

/-! ### the hook -/
def asK (g : Addr → Option Obj) (n : Nat) : List Addr := sysModules :: cStatics :: He.asD g n
abbrev AlK : Type := (Bool × List He.FnW) × Option (Str × Str × Arguments × FuncBody × Scope × Addr × List Str × Value × Addr)
def obsK (p : Program) (errs : List Str) (fr : List Str) (fn : List He.DefD) (K : Frag) : AlK :=
  ((baseOk p K && ((errs.all fun c => errOk K (He.ga K "HomeError") c) && ((fr.all fun x => (He.Fa.free x).ok K) && fn.all fun d => d.ok K && (He.Fa.glo d.name).ok K)), fn.map fun d => He.fnW K d.at_), iniOf K)
def valK (fn : List He.DefD) : AlK := ((true, fn.map He.DefD.val), iniVal)
def SaysK (p : Program) (errs fr : List Str) (fn : List He.DefD) (K : Frag) : Prop := obsK p errs fr fn K = valK fn
def hookK (p : Program) (n : Nat) (errs fr : List Str) (fn : List He.DefD) : Hook where
  α := AlK
  obs := fun s => obsK p errs fr fn (He.frG s.heap.get? (asK s.heap.get? n))
  val := fun _ => valK fn
  says := fun _ h => ∃ K : Frag, K.In h ∧ SaysK p errs fr fn K
  of := fun _ _ e => ⟨_, He.frG_in, e⟩
  keeps := fun _ _ _ ⟨K, hK, c⟩ k => ⟨K, Frag.In.keeps hK k, c⟩
def obK (p : Program) (n : Nat) (errs fr : List Str) (fn : List He.DefD) (s : SharedT) : AlK := obsK p errs fr fn (He.frG (HandSHeadRun.getT s) (asK (HandSHeadRun.getT s) n))
theorem obK_eq {p : Program} {n : Nat} {errs fr : List Str} {fn : List He.DefD} (s : SharedT) : obK p n errs fr fn s = (hookK p n errs fr fn).obs s.abs := by
  have e : HandSHeadRun.getT s = s.abs.heap.get? := funext fun a => HandSHeadRun.getT_eq s a
  unfold obK
  rw [e]
  rfl
section
variable {p : Program} {errs fr : List Str} {fn : List He.DefD} {K : Frag} {h : Heap} {mg : Str → Option Value}
theorem SaysK.def_ (c : SaysK p errs fr fn K) (X : K.In h) (G : h.Ns mainGlobals mg) (i : Nat) {d : He.DefD} (hi : fn[i]? = some d := by rfl) : mg d.name = some (.ref (He.ga K d.name)) ∧ ∃ fd, FunD K d.name d.qual d.params d.body d.scope (d.dvs K) (d.kws K) (He.fAd K d.at_) fd := by
  have e1 := congrArg (fun z : AlK => z.1.1) c
  have e2 := congrArg (fun z : AlK => z.1.2) c
  dsimp only [obsK, valK] at e1 e2
  obtain ⟨_, e1⟩ := He.ba e1
  obtain ⟨_, e1⟩ := He.ba e1
  obtain ⟨_, e1⟩ := He.ba e1
  have m := List.mem_of_getElem? hi
  obtain ⟨k1, k2⟩ := He.ba (List.all_eq_true.mp e1 d m)
  have e3 := congrArg (fun l : List He.FnW => l[i]?) e2
  rw [List.getElem?_map, List.getElem?_map, hi] at e3
  exact ⟨He.glo_ok X G k2, He.DefD.funD (by simpa using e3) k1⟩
theorem SaysK.free (c : SaysK p errs fr fn K) (X : K.In h) (G : h.Ns mainGlobals mg) {x : Str} (hx : x ∈ fr) : mg x = none := by
  have e1 := congrArg (fun z : AlK => z.1.1) c
  dsimp only [obsK, valK] at e1
  obtain ⟨_, e1⟩ := He.ba e1
  obtain ⟨_, e1⟩ := He.ba e1
  obtain ⟨e1, _⟩ := He.ba e1
  exact He.free_ok X G (List.all_eq_true.mp e1 x hx)
theorem SaysK.err (c : SaysK p errs fr fn K) (X : K.In h) (G : h.Ns mainGlobals mg) (hb : ("HomeError" : Str) ∈ errs) : (∃ o, K.lookup sysModules = some o) ∧ ∃ B fI cc cda, BaseT p K mg B fI cc cda ∧ IsBase K B ∧ ∀ c ∈ errs, ∃ T, mg c = some (.ref T) ∧ ErrT K B fI c T := by
  have e1 := congrArg (fun z : AlK => z.1.1) c
  have e2 := congrArg (fun z : AlK => z.2) c
  dsimp only [obsK, valK] at e1 e2
  obtain ⟨e0, e1⟩ := He.ba e1
  obtain ⟨e1, _⟩ := He.ba e1
  obtain ⟨sm, cc, cda, b⟩ := baseT_of X G e0 e2
  have te : ∀ c ∈ errs, ∃ T, mg c = some (.ref T) ∧ ErrT K (He.ga K "HomeError") (fiA K (He.ga K "HomeError")) c T := fun c hc => by
    obtain ⟨h1, h2⟩ := errT_of (List.all_eq_true.mp e1 c hc)
    exact ⟨_, mg_of X G h1, h2⟩
  refine ⟨sm, _, _, cc, cda, b, ?_, te⟩
  obtain ⟨h1, h2⟩ := errT_of (List.all_eq_true.mp e1 _ hb)
  obtain ⟨q, N, bs, sn, sub, ab, col, dd, k0, k1, k2, k3, k5, e⟩ := h2.cls
  exact ⟨q, N, bs, _, sn, sub, ab, col, dd, k0, k1, k2, k3, k5, e⟩
end
end DL

set_option Elab.async false
set_option linter.all false
set_option maxRecDepth 100000
set_option maxHeartbeats 2000000
/-! What the top leaves, read by names: .. and own classes, constants, the tables of code objects. -/
namespace DL
open PySem PySem.Spec L2 PySem.W PySem.Calls HandSPX
open PyProof.Rows hiding St

/-- a def: where it stands (by what is looked at), the global name that it has, if any -/
structure DefA where
  adr : Frag → Addr
  glo : Option Str
  name : Str
  qual : Str
  params : Arguments
  body : List Stmt
  scope : Scope
  dfl : List He.Dv := []
def gloA (x : Str) : Frag → Addr := fun K => He.ga K x
def metA (c m : Str) : Frag → Addr := fun K => He.ma K (He.ga K c) m
/-- a property's getter -/
def prpA (c n : Str) : Frag → Addr := fun K => match recIn K (He.ma K (He.ga K c) n) "property" with
  | some (.ref g :: _) => g
  | _ => 0
def fnA (K : Frag) (a : Addr) : He.FnW := match K.lookup a with
  | some ⟨_, _, .func fd, _⟩ => some (fd.name, fd.qualname, fd.params, fd.body, fd.scope, fd.globals, fd.closure, fd.builtins)
  | _ => none
def DefA.val (d : DefA) : He.FnW := some (d.name, d.qual, d.params, .stmts d.body, d.scope, mainGlobals, [], builtinsNs)
def DefA.dvs (K : Frag) (d : DefA) : List V := d.dfl.map (He.Dv.v K)
def DefA.ok (K : Frag) (d : DefA) : Bool := keepIn K (.ref (d.adr K)) && ((match d.glo with
  | some x => (He.Fa.glo x).ok K
  | none => true) && (match K.lookup (d.adr K) with
  | some ⟨_, _, .func fd, _⟩ => codeIn K fd.code d.qual && He.dflB K fd.defaults (d.dvs K)
  | _ => false))
theorem DefA.funD {K : Frag} {d : DefA} (e : fnA K (d.adr K) = d.val) (c : d.ok K = true) : ∃ fd, FunD K d.name d.qual d.params d.body d.scope (d.dvs K) [] (d.adr K) fd ∧ ∃ oc od osl, K.lookup (d.adr K) = some ⟨oc, od, .func fd, osl⟩ := by
  obtain ⟨kp, c1⟩ := He.ba c
  obtain ⟨_, c2⟩ := He.ba c1
  unfold fnA at e
  cases q : K.lookup (d.adr K) with
  | none => rw [q] at c2; cases c2
  | some o =>
    obtain ⟨oc, od, dt, osl⟩ := o
    rw [q] at c2 e
    cases dt with
    | func fd =>
      obtain ⟨n1, n2, n3, n4, n5, n6, n7, n8, n9, n10, n11, n12, n13, n14, n15⟩ := fd
      have e2 : (some (n1, n2, n3, n4, n5, n6, n7, n15) : He.FnW) = some (d.name, d.qual, d.params, .stmts d.body, d.scope, mainGlobals, [], builtinsNs) := e
      simp only [Option.some.injEq, Prod.mk.injEq] at e2
      obtain ⟨h1, h2, h3, h4, h5, h6, h7, h8⟩ := e2
      subst h1 h2 h3 h4 h5 h6 h7 h8
      obtain ⟨k1, k3⟩ := He.ba (show (codeIn K n13 d.qual && He.dflB K n8 (d.dvs K)) = true from c2)
      exact ⟨_, ⟨⟨oc, od, n8, n9, n10, n11, n12, n13, n14, osl, rfl, q, k1, He.dflB_ok k3, .inl rfl⟩, kp⟩, oc, od, osl, rfl⟩
    | _ => cases c2

/-! ### facts -/
inductive Fx where
  | con (x : Str) (d : D)
  | cls (c : Str)
  | mk (c : Str)
  | slot (c f : Str) (i : Nat)
  | meth (c m : Str)
  | prop (c n : Str)
def Fx.ok (K : Frag) : Fx → Bool
  | .con x d => (match nsIn K mainGlobals x with
    | some (some u) => He.relB (vOf d) u
    | _ => false)
  | .cls c => (He.Fa.glo c).ok K && (plainGet K (He.ga K c) Str.empty && (isClsIn K (He.ga K c) && (plainOver K (He.ga K c) && (He.eqO (findIn K (.ref (He.ga K c)) "__setattr__") (some (some (.builtin "object.__setattr__"))) && ownCls K c (He.ga K c)))))
  | .mk c => (He.Fa.mkr c).ok K
  | .slot c f i => He.eqO (findIn K (.ref (He.ga K c)) f) (some (some (.ref (He.ma K (He.ga K c) f)))) && (He.eqO (specialIn K (.ref (He.ma K (He.ga K c) f)) "__get__") (some (some (.builtin "member_descriptor.__get__"))) &&
      (decide (takesIn K (.ref (He.ma K (He.ga K c) f)) = some true) && (decide (typeIn K (.ref (He.ma K (He.ga K c) f)) = some (.type "member_descriptor")) && (decide (slotIn K (He.ma K (He.ga K c) f) (He.ga K c) = some i) && decide (i < 1000)))))
  | .meth c m => (He.Fa.meth c m).ok K && fnIn K (He.ma K (He.ga K c) m)
  | .prop c n => He.eqO (findIn K (.ref (He.ga K c)) n) (some (some (.ref (He.ma K (He.ga K c) n)))) && (He.eqO (specialIn K (.ref (He.ma K (He.ga K c) n)) "__get__") (some (some (.builtin "property.__get__"))) &&
      (decide (takesIn K (.ref (He.ma K (He.ga K c) n)) = some true) && (match recIn K (He.ma K (He.ga K c) n) "property" with
        | some (.ref g :: _) => true
        | _ => false)))
section
variable {K : Frag} {h : Heap} {mg : Str → Option Value} {c f m n x : Str} {i : Nat} {d : D}
theorem conX_ok (X : K.In h) (G : h.Ns mainGlobals mg) (e : (Fx.con x d).ok K = true) : ∃ u, mg x = some u ∧ RelV (vOf d) u := by
  have e : (match nsIn K mainGlobals x with | some (some u) => He.relB (vOf d) u | _ => false) = true := e
  split at e
  · rename_i u hu; exact ⟨u, mg_of X G hu, He.relB_ok e⟩
  · cases e
theorem clsX_ok (X : K.In h) (G : h.Ns mainGlobals mg) (e : (Fx.cls c).ok K = true) : mg c = some (.ref (He.ga K c)) ∧ SlX.SCls K (He.ga K c) ∧ ownCls K c (He.ga K c) = true := by
  obtain ⟨e1, e⟩ := He.ba e
  obtain ⟨e2, e⟩ := He.ba e
  obtain ⟨e3, e⟩ := He.ba e
  obtain ⟨e4, e⟩ := He.ba e
  obtain ⟨e5, e6⟩ := He.ba e
  exact ⟨He.glo_ok X G e1, ⟨e2, e3, e4, He.eqO_ok e5⟩, e6⟩
theorem slotX_ok (e : (Fx.slot c f i).ok K = true) : SlX.Slot1 K (He.ga K c) f (He.ma K (He.ga K c) f) i := by
  obtain ⟨e1, e⟩ := He.ba e
  obtain ⟨e2, e⟩ := He.ba e
  obtain ⟨e3, e⟩ := He.ba e
  obtain ⟨e4, e⟩ := He.ba e
  obtain ⟨e5, e6⟩ := He.ba e
  exact ⟨He.eqO_ok e1, He.eqO_ok e2, of_decide_eq_true e3, of_decide_eq_true e4, of_decide_eq_true e5, of_decide_eq_true e6⟩
theorem sloC_of (X : K.In h) (G : h.Ns mainGlobals mg) (e1 : (Fx.cls c).ok K = true) (e2 : (Fx.slot c f i).ok K = true) : SloC K mg c f i := by
  obtain ⟨a, b, _⟩ := clsX_ok X G e1
  exact ⟨_, _, a, b, slotX_ok e2⟩
theorem methX_ok (e : (Fx.meth c m).ok K = true) : Meth K (He.ga K c) m (He.ma K (He.ga K c) m) ∧ fnIn K (He.ma K (He.ga K c) m) = true := by
  obtain ⟨e1, e2⟩ := He.ba e
  exact ⟨He.meth_ok e1, e2⟩
theorem propX_ok (e : (Fx.prop c n).ok K = true) : findIn K (.ref (He.ga K c)) n = some (some (.ref (He.ma K (He.ga K c) n))) ∧ specialIn K (.ref (He.ma K (He.ga K c) n)) "__get__" = some (some (.builtin "property.__get__")) ∧ takesIn K (.ref (He.ma K (He.ga K c) n)) = some true ∧
    ∃ rest, recIn K (He.ma K (He.ga K c) n) "property" = some (.ref (prpA c n K) :: rest) := by
  obtain ⟨e1, e⟩ := He.ba e
  obtain ⟨e2, e⟩ := He.ba e
  obtain ⟨e3, e4⟩ := He.ba e
  refine ⟨He.eqO_ok e1, He.eqO_ok e2, of_decide_eq_true e3, ?_⟩
  have e4 : (match recIn K (He.ma K (He.ga K c) n) "property" with | some (.ref g :: _) => true | _ => false) = true := e4
  unfold prpA
  split at e4
  · rename_i g r hr; rw [hr]; exact ⟨r, rfl⟩
  · cases e4
end
/-! ### what is handed to the derivations -/
section
variable {P : Program} {w : World} {K : Frag} {mg : Str → Option Value} {base h : Heap} {k : Nat} {b : Cb} {c n : Str} {np nN : Nat} {m : M Fl} {ps : List Str} {fd : FuncData} {ini : Ini} {cs : List D}
theorem calM_of (X : K.In h) (G : h.Ns mainGlobals mg) (e1 : (Fx.cls c).ok K = true) (e2 : (Fx.meth c n).ok K = true) (F : FnD P w K mg base k (metA c n K) fd ps (spM b np nN m)) (hb : Binds K fd ps []) : CalM P w K mg base k b c n np nN m := by
  obtain ⟨a, _, _⟩ := clsX_ok X G e1
  obtain ⟨m1, m2⟩ := methX_ok e2
  exact ⟨_, _, fd, ps, a, m1.at_, m1.fn, m2, F, hb⟩
theorem calP_of (X : K.In h) (G : h.Ns mainGlobals mg) (e1 : (Fx.cls c).ok K = true) (e2 : (Fx.prop c n).ok K = true) (F : FnD P w K mg base k (prpA c n K) fd ps (spM b 1 nN m)) (hb : Binds K fd ps []) : CalP P w K mg base k b c n nN m := by
  obtain ⟨a, s, _⟩ := clsX_ok X G e1
  obtain ⟨p1, p2, p3, p4⟩ := propX_ok e2
  exact ⟨_, _, _, fd, ps, a, s, p1, p2, p3, p4, F, hb⟩
theorem calI_of (X : K.In h) (G : h.Ns mainGlobals mg) (e1 : (Fx.cls c).ok K = true) (e2 : (Fx.mk c).ok K = true) (F : FnD P w K mg base k (metA c "__init__" K) fd ps (spI b c np nN ini)) (hb : Binds K fd ps []) : CalI P w K mg base k b c np nN ini [] := by
  obtain ⟨a, s, _⟩ := clsX_ok X G e1
  exact ⟨_, _, fd, ps, [], [], a, He.mkr_ok e2, F, hb, .nil, fun G => by unfold denL; rfl⟩
end
/-! ### the hook -/
/-- the tables that lambdas write -/
def tabK (K : Frag) (a : Addr) : Addr × Addr := match K.lookup a with
  | some ⟨_, _, .func fd, _⟩ => (refOf fd.code, He.tabOf K (refOf fd.code))
  | _ => (0, 0)
def tabsK (g : Addr → Option Obj) (tf : List (Frag → Addr)) (K : Frag) : Bool := tf.all fun a => codeHdIn K (tabK K (a K)).1 (tabK K (a K)).2 && (match g (tabK K (a K)).2 with
  | some o => He.emptyTab o
  | none => false)
def distinct (l : List Addr) : Bool := match l with
  | [] => true
  | a :: r => r.all (fun b => decide (a ≠ b)) && distinct r
def obsL (p : Program) (n : Nat) (errs fr : List Str) (fn : List DefA) (fx : List Fx) (tf : List (Frag → Addr)) (g : Addr → Option Obj) : AlK :=
  let K := He.frT g (asK g n)
  ((baseOk p K && ((errs.all fun c => errOk K (He.ga K "HomeError") c) && ((fr.all fun x => (He.Fa.free x).ok K) && ((fn.all fun d => d.ok K) && ((fx.all fun f => f.ok K) && (tabsK g tf K && distinct (tf.map fun a => (tabK K (a K)).2)))))), fn.map fun d => fnA K (d.adr K)), iniOf K)
def valL (fn : List DefA) : AlK := ((true, fn.map DefA.val), iniVal)
structure SaysL (p : Program) (errs fr : List Str) (fn : List DefA) (fx : List Fx) (tf : List (Frag → Addr)) (h : Heap) (K : Frag) : Prop where
  base : baseOk p K = true
  errs : ∀ c ∈ errs, errOk K (He.ga K "HomeError") c = true
  fr : ∀ x ∈ fr, (He.Fa.free x).ok K = true
  fn : ∀ d ∈ fn, d.ok K = true ∧ fnA K (d.adr K) = d.val
  fx : ∀ f ∈ fx, f.ok K = true
  hd : ∀ a ∈ tf, codeHdIn K (tabK K (a K)).1 (tabK K (a K)).2 = true
  out : ∀ a ∈ tf, K.lookup (tabK K (a K)).2 = none
  emp : ∀ a ∈ tf, h.get? (tabK K (a K)).2 = some { cls := .none, data := .fields #[] }
  ne : distinct (tf.map fun a => (tabK K (a K)).2) = true
  ini : iniOf K = iniVal
theorem saysL_of {p : Program} {n : Nat} {errs fr : List Str} {fn : List DefA} {fx : List Fx} {tf : List (Frag → Addr)} {h : Heap} (e : obsL p n errs fr fn fx tf h.get? = valL fn) : SaysL p errs fr fn fx tf h (He.frT h.get? (asK h.get? n)) := by
  have e1 := congrArg (fun z : AlK => z.1.1) e
  have e2 := congrArg (fun z : AlK => z.1.2) e
  have e3 := congrArg (fun z : AlK => z.2) e
  dsimp only [obsL, valL] at e1 e2 e3
  obtain ⟨h1, e1⟩ := He.ba e1
  obtain ⟨h2, e1⟩ := He.ba e1
  obtain ⟨h3, e1⟩ := He.ba e1
  obtain ⟨h4, e1⟩ := He.ba e1
  obtain ⟨h5, e1⟩ := He.ba e1
  obtain ⟨h6, h7⟩ := He.ba e1
  have key : ∀ a ∈ tf, codeHdIn (He.frT h.get? (asK h.get? n)) (tabK (He.frT h.get? (asK h.get? n)) (a (He.frT h.get? (asK h.get? n)))).1 (tabK (He.frT h.get? (asK h.get? n)) (a (He.frT h.get? (asK h.get? n)))).2 = true ∧ ∃ o, h.get? (tabK (He.frT h.get? (asK h.get? n)) (a (He.frT h.get? (asK h.get? n)))).2 = some o ∧ He.emptyTab o = true := fun a ha => by
    obtain ⟨q1, q2⟩ := He.ba (List.all_eq_true.mp h6 a ha)
    refine ⟨q1, ?_⟩
    split at q2
    · rename_i o ho; exact ⟨o, ho, q2⟩
    · cases q2
  refine ⟨h1, List.all_eq_true.mp h2, List.all_eq_true.mp h3, fun d hd => ⟨List.all_eq_true.mp h4 d hd, ?_⟩, List.all_eq_true.mp h5, fun a ha => (key a ha).1, fun a ha => ?_, fun a ha => ?_, h7, e3⟩
  · exact List.map_inj_left.mp e2 d hd
  · obtain ⟨_, o, q, z⟩ := key a ha
    exact He.frT_none q z
  · obtain ⟨_, o, q, z⟩ := key a ha
    rw [q, He.emptyTab_eq z]
def hookL (p : Program) (n : Nat) (errs fr : List Str) (fn : List DefA) (fx : List Fx) (tf : List (Frag → Addr)) : Hook where
  α := AlK
  obs := fun s => obsL p n errs fr fn fx tf s.heap.get?
  val := fun _ => valL fn
  says := fun _ h => ∃ K : Frag, K.In h ∧ SaysL p errs fr fn fx tf h K
  of := fun _ _ e => ⟨_, He.frT_in, saysL_of e⟩
  keeps := fun _ _ _ ⟨K, hK, c⟩ k => ⟨K, Frag.In.keeps hK k, ⟨c.base, c.errs, c.fr, c.fn, c.fx, c.hd, c.out, fun a ha => k _ _ (c.emp a ha), c.ne, c.ini⟩⟩
def obL (p : Program) (n : Nat) (errs fr : List Str) (fn : List DefA) (fx : List Fx) (tf : List (Frag → Addr)) (s : SharedT) : AlK := obsL p n errs fr fn fx tf (HandSHeadRun.getT s)
theorem obL_eq {p : Program} {n : Nat} {errs fr : List Str} {fn : List DefA} {fx : List Fx} {tf : List (Frag → Addr)} (s : SharedT) : obL p n errs fr fn fx tf s = (hookL p n errs fr fn fx tf).obs s.abs := by
  have e : HandSHeadRun.getT s = s.abs.heap.get? := funext fun a => HandSHeadRun.getT_eq s a
  unfold obL
  rw [e]
  rfl
section
variable {p : Program} {errs fr : List Str} {fn : List DefA} {fx : List Fx} {tf : List (Frag → Addr)} {K : Frag} {h : Heap} {mg : Str → Option Value}
theorem SaysL.def_ (c : SaysL p errs fr fn fx tf h K) (i : Nat) {d : DefA} (hi : fn[i]? = some d := by rfl) : ∃ fd, FunD K d.name d.qual d.params d.body d.scope (d.dvs K) [] (d.adr K) fd ∧ ∃ oc od osl, K.lookup (d.adr K) = some ⟨oc, od, .func fd, osl⟩ := by
  obtain ⟨a, b⟩ := c.fn d (List.mem_of_getElem? hi)
  exact DefA.funD b a
theorem SaysL.glo (c : SaysL p errs fr fn fx tf h K) (X : K.In h) (G : h.Ns mainGlobals mg) (i : Nat) {d : DefA} {x : Str} (hi : fn[i]? = some d := by rfl) (hx : d.glo = some x := by rfl) : mg x = some (.ref (He.ga K x)) := by
  obtain ⟨a, b⟩ := c.fn d (List.mem_of_getElem? hi)
  obtain ⟨_, a⟩ := He.ba a
  obtain ⟨a, _⟩ := He.ba a
  rw [hx] at a
  exact He.glo_ok X G a
theorem SaysL.free (c : SaysL p errs fr fn fx tf h K) (X : K.In h) (G : h.Ns mainGlobals mg) {x : Str} (hx : x ∈ fr) : mg x = none := He.free_ok X G (c.fr x hx)
theorem SaysL.fact (c : SaysL p errs fr fn fx tf h K) (i : Nat) {f : Fx} (hi : fx[i]? = some f := by rfl) : f.ok K = true := c.fx f (List.mem_of_getElem? hi)
theorem SaysL.err (c : SaysL p errs fr fn fx tf h K) (X : K.In h) (G : h.Ns mainGlobals mg) (hb : ("HomeError" : Str) ∈ errs) : (∃ o, K.lookup sysModules = some o) ∧ ∃ B fI cc cda, BaseT p K mg B fI cc cda ∧ IsBase K B ∧ ∀ c ∈ errs, ∃ T, mg c = some (.ref T) ∧ ErrT K B fI c T := by
  obtain ⟨sm, cc, cda, b⟩ := baseT_of X G c.base c.ini
  have te : ∀ c ∈ errs, ∃ T, mg c = some (.ref T) ∧ ErrT K (He.ga K "HomeError") (fiA K (He.ga K "HomeError")) c T := fun x hx => by
    obtain ⟨h1, h2⟩ := errT_of (c.errs x hx)
    exact ⟨_, mg_of X G h1, h2⟩
  refine ⟨sm, _, _, cc, cda, b, ?_, te⟩
  obtain ⟨h1, h2⟩ := errT_of (c.errs _ hb)
  obtain ⟨q, N, bs, sn, sub, ab, col, dd, k0, k1, k2, k3, k5, e⟩ := h2.cls
  exact ⟨q, N, bs, _, sn, sub, ab, col, dd, k0, k1, k2, k3, k5, e⟩
end
end DL
namespace DL
open PySem PySem.Spec L2 PySem.W PySem.Calls HandSPX
open PyProof.Rows hiding St
/-! ### tables and facts, as they are handed on -/
def tbK (K : Frag) (q : List ((Frag → Addr) × Str)) : List (Addr × Str) := q.map fun z => ((tabK K (z.1 K)).2, z.2)
def csK (K : Frag) (q : List ((Frag → Addr) × Str)) : List (Addr × Addr) := q.map fun z => tabK K (z.1 K)
theorem distinct_ok : ∀ {l : List (Addr × Str)}, distinct (l.map (·.1)) = true → ∀ {P : Addr} {q : Str}, (P, q) ∈ l → ∀ p ∈ l, p.1 = P → p.2 = q
  | [], _, P, q, h, _, _, _ => nomatch h
  | (A, s) :: r, h, P, q, hm, p, hp, e => by
    obtain ⟨h1, h2⟩ := He.ba (show ((r.map (·.1)).all (fun b => decide (A ≠ b)) && distinct (r.map (·.1))) = true from h)
    have no : ∀ x ∈ r, x.1 ≠ A := fun x hx z => by
      have := of_decide_eq_true (List.all_eq_true.mp h1 x.1 (List.mem_map.mpr ⟨x, hx, rfl⟩))
      exact this z.symm
    rcases List.mem_cons.mp hm with hm | hm
    · cases hm
      rcases List.mem_cons.mp hp with hp | hp
      · rw [hp]
      · exact (no p hp e).elim
    · rcases List.mem_cons.mp hp with hp | hp
      · subst hp
        exact (no _ hm e.symm).elim
      · exact distinct_ok h2 hm p hp e
section
variable {p : Program} {errs fr : List Str} {fn : List DefA} {fx : List Fx} {q : List ((Frag → Addr) × Str)} {K : Frag} {h : Heap} {mg : Str → Option Value} {cons : List (Str × D)} {slots : List (Str × Str × Nat)} {owns : List Str}
theorem SaysL.one (c : SaysL p errs fr fn fx (q.map (·.1)) h K) (i : Nat) {a : Frag → Addr} {s : Str} (hi : q[i]? = some (a, s) := by rfl) : TabOne (tbK K q) (tabK K (a K)).2 s := by
  have hm : ((tabK K (a K)).2, s) ∈ tbK K q := List.mem_map.mpr ⟨(a, s), List.mem_of_getElem? hi, rfl⟩
  refine ⟨hm, distinct_ok ?_ hm⟩
  have e : (tbK K q).map (·.1) = (q.map (·.1)).map fun a => (tabK K (a K)).2 := by unfold tbK; rw [List.map_map, List.map_map]; rfl
  rw [e]; exact c.ne
theorem tabs_start {H : Hp} (hH : ∀ z ∈ csK K q, H z.2 = some (.tbl #[])) : LamX.Tabs (tbK K q) H := fun z hz => by
  obtain ⟨x, hx, rfl⟩ := List.mem_map.mp hz
  exact LamX.TabS.nil (hH _ (List.mem_map.mpr ⟨x, hx, rfl⟩))
theorem SaysL.cs (c : SaysL p errs fr fn fx (q.map (·.1)) h K) (X : K.In h) : (∀ z ∈ csK K q, h.get? z.2 = some { cls := .none, data := .fields #[] }) ∧ (∀ z ∈ csK K q, K.lookup z.2 = none) ∧ ∀ z ∈ csK K q, CodeHd h z.1 z.2 := by
  have at_ : ∀ z ∈ csK K q, ∃ a ∈ q.map (·.1), z = tabK K (a K) := fun z hz => by
    obtain ⟨x, hx, rfl⟩ := List.mem_map.mp hz
    exact ⟨x.1, List.mem_map.mpr ⟨x, hx, rfl⟩, rfl⟩
  refine ⟨fun z hz => ?_, fun z hz => ?_, fun z hz => ?_⟩
  · obtain ⟨a, ha, rfl⟩ := at_ z hz; exact c.emp a ha
  · obtain ⟨a, ha, rfl⟩ := at_ z hz; exact c.out a ha
  · obtain ⟨a, ha, rfl⟩ := at_ z hz; exact codeHd_of_K X (c.hd a ha)
theorem tab_base {base : Heap} (hT : ∀ z ∈ csK K q, LamX.TabB base mg z.1 z.2) (i : Nat) {a : Frag → Addr} {s : Str} (hi : q[i]? = some (a, s) := by rfl) : LamX.TabB base mg (tabK K (a K)).1 (tabK K (a K)).2 :=
  hT _ (List.mem_map.mpr ⟨(a, s), List.mem_of_getElem? hi, rfl⟩)
theorem code_of {name qual : Str} {params : Arguments} {body : List Stmt} {scope : Scope} {dvs : List V} {kws : List (Str × V)} {f : Addr} {fd : FuncData} (F : FunD K name qual params body scope dvs kws f fd) : fd.code = .ref (tabK K f).1 := by
  obtain ⟨oc, od, dV, kV, doc, pm, an, cdv, ct, osl, rfl, lk, hcd, _, _⟩ := F.ex
  obtain ⟨c, rfl⟩ := He.codeIn_ref hcd
  unfold tabK
  rw [lk]
  rfl
theorem kn_of (X : K.In h) (G : h.Ns mainGlobals mg) (c : ∀ f ∈ fx, f.ok K = true) (hm : ∀ z ∈ cons, Fx.con z.1 z.2 ∈ fx) : Kn mg cons := fun i x d hi => conX_ok X G (c _ (hm _ (List.mem_of_getElem? hi)))
theorem own_of (X : K.In h) (G : h.Ns mainGlobals mg) (c : ∀ f ∈ fx, f.ok K = true) (hm : ∀ z ∈ owns, Fx.cls z ∈ fx) : OwnL K mg owns := fun x hx => by
  obtain ⟨a, b, d⟩ := clsX_ok X G (c _ (hm _ hx))
  exact ⟨_, a, b, d⟩
theorem sl_of (X : K.In h) (G : h.Ns mainGlobals mg) (c : ∀ f ∈ fx, f.ok K = true) (hm : ∀ z ∈ owns, Fx.cls z ∈ fx) (ho : ∀ z ∈ slots, z.1 ∈ owns) (hs : ∀ z ∈ slots, Fx.slot z.1 z.2.1 z.2.2 ∈ fx) : SlL K mg slots := fun j x f i hj => by
  have m := List.mem_of_getElem? hj
  exact sloC_of X G (c _ (hm _ (ho _ m))) (c _ (hs _ m))
theorem mth_of (X : K.In h) (G : h.Ns mainGlobals mg) {c n : Str} (e1 : (Fx.cls c).ok K = true) (e2 : (Fx.meth c n).ok K = true) : MthL K mg c n := fun T hT => by
  obtain ⟨a, b, _⟩ := clsX_ok X G e1
  rw [a] at hT; cases hT
  obtain ⟨m1, _⟩ := methX_ok e2
  exact ⟨b, fun g hg => by rw [m1.at_] at hg; cases hg; exact m1⟩
end
end DL

set_option Elab.async false
set_option linter.all false
set_option maxRecDepth 100000
set_option maxHeartbeats 0
/-! How a mirror is run. -/
namespace DL
open PySem PySem.Spec L2
open PyProof.Rows hiding St

@[simp] theorem nrm_eC (d : D) (ρ : DEnv) : nrm (eC d) ρ = .ok (.val d) ρ := rfl
theorem nrm_eV {i : Nat} {ρ : DEnv} {x : Bool × D} (h : ρ[i]? = some (some x)) : nrm (eV i) ρ = .ok (.slot i) ρ := by
  unfold nrm eV; rw [h]; rfl
theorem nrm_ok {f : M Opd} {ρ ρ' : DEnv} {o : Opd} (h : f ρ = .ok o ρ') : nrm f ρ = .ok (nrmO o) ρ' := by unfold nrm; rw [h]; rfl
@[simp] theorem look_val (d : D) (ρ : DEnv) : look (.val d) ρ = some d := rfl
@[simp] theorem look_own (d : D) (ρ : DEnv) : look (.own d) ρ = some d := rfl
theorem log2_lt {i : Int} {n : Nat} (h : i.natAbs < 2 ^ n) (h0 : 0 < n) : i.natAbs.log2 < n := PySem.Flt.log2_lt_of h0 h
theorem mulF_ok {i j : Int} (a b : Nat) (hi : i.natAbs < 2 ^ a) (hj : j.natAbs < 2 ^ b) (ha : 0 < a := by decide) (hb : 0 < b := by decide) (hab : a + b ≤ 1000000 := by decide) : mulF (.int i) (.int j) = some (.val (.int (i * j))) := by
  show (if _ then _ else _) = _
  rw [if_pos]
  have := log2_lt hi ha
  have := log2_lt hj hb
  omega
theorem modF_ok {i j : Int} (h : 0 < j) : modF (.int i) (.int j) = some (.val (.int (i % j))) := if_pos h
section
variable {f g : M Opd} {fs : List (M Opd)} {F : D → Option Opd} {F2 : D → D → Option Opd} {FB : List D → Option Opd} {ρ ρ1 ρ2 ρ3 : DEnv} {a b o o' : Opd} {os : List Opd} {x y : D} {ds : List D} {c : Bool} {t u : M Bool} {s1 s2 : M Fl} {np nN i : Nat} {m : M Fl}
theorem eV_ok {z : Bool × D} (h : ρ[i]? = some (some z)) : eV i ρ = .ok (.slot i) ρ := by unfold eV; rw [h]
theorem eA_nil : eA [] ρ = .ok [] ρ := rfl
theorem eA_cons (h : f ρ = .ok o ρ1) (h' : eA fs ρ1 = .ok os ρ2) : eA (f :: fs) ρ = .ok (nrmO o :: os) ρ2 := by
  show (nrm f ρ).bind _ = _
  rw [nrm_ok h, R.bind_ok, h']; rfl
theorem e1_ok (h : f ρ = .ok a ρ1) (l : look (nrmO a) ρ1 = some x) (hf : F x = some o) : e1 f F ρ = .ok o ρ1 := by
  show (nrm f ρ).bind _ = _
  rw [nrm_ok h, R.bind_ok]; unfold fin1; rw [l]; dsimp only; rw [hf]
theorem e2_ok (h1 : f ρ = .ok a ρ1) (h2 : g ρ1 = .ok b ρ2) (l1 : look (nrmO a) ρ2 = some x) (l2 : look (nrmO b) ρ2 = some y) (h : F2 x y = some o) : e2 f g F2 ρ = .ok o ρ2 := by
  show (nrm f ρ).bind _ = _
  rw [nrm_ok h1, R.bind_ok, nrm_ok h2, R.bind_ok]; unfold fin2; rw [l1, l2]; dsimp only; rw [h]
theorem eB_ok (h : eA fs ρ = .ok os ρ1) (l : looks os ρ1 = some ds) (hf : FB ds = some o) : eB fs FB ρ = .ok o ρ1 := by
  show (eA fs ρ).bind _ = _
  rw [h, R.bind_ok]; unfold finB; rw [l]; dsimp only; rw [hf]
theorem eTup_ok (h : eA fs ρ = .ok os ρ1) (l : takeAll os ρ1 = some (ds, ρ2)) (hz : ds.length ≤ 16777216) : eTup fs ρ = .ok (.val (.tup ds)) ρ2 := by
  show (eA fs ρ).bind _ = _
  rw [h, R.bind_ok, l]; dsimp only; rw [if_pos hz]
theorem eLst_ok (h : eA fs ρ = .ok os ρ1) (l : takeAll os ρ1 = some (ds, ρ2)) (hz : ds.length ≤ 16777216) : eLst fs ρ = .ok (.own (.lst ds)) ρ2 := by
  show (eA fs ρ).bind _ = _
  rw [h, R.bind_ok, l]; dsimp only; rw [if_pos hz]
theorem eCall_ok {r : R Opd} (h : eA fs ρ = .ok os ρ1) (c : callM np nN m os ρ1 = r) : eCall np nN m fs ρ = r := by
  show (eA fs ρ).bind _ = _
  rw [h, R.bind_ok, c]
theorem tV_ok (h : f ρ = .ok a ρ1) (l : look (nrmO a) ρ1 = some (.bl c)) : tV f ρ = .ok c ρ1 := by
  show (nrm f ρ).bind _ = _
  rw [nrm_ok h, R.bind_ok]; unfold finT; rw [l]
theorem tNot_ok (h : t ρ = .ok c ρ1) : tNot' t ρ = .ok (!c) ρ1 := by
  show (t ρ).bind _ = _
  rw [h]; rfl
theorem tOr_f (h : t ρ = .ok false ρ1) : tOr' t u ρ = u ρ1 := by
  show (t ρ).bind _ = _
  rw [h]; rfl
theorem tOr_t (h : t ρ = .ok true ρ1) : tOr' t u ρ = .ok true ρ1 := by
  show (t ρ).bind _ = _
  rw [h]; rfl
theorem tAnd_t (h : t ρ = .ok true ρ1) : tAnd' t u ρ = u ρ1 := by
  show (t ρ).bind _ = _
  rw [h]; rfl
theorem tAnd_f (h : t ρ = .ok false ρ1) : tAnd' t u ρ = .ok false ρ1 := by
  show (t ρ).bind _ = _
  rw [h]; rfl
theorem eAnd_t (h : f ρ = .ok a ρ1) (l : look (nrmO a) ρ1 = some (.bl true)) : eAnd f g ρ = g ρ1 := by
  show (nrm f ρ).bind _ = _
  rw [nrm_ok h, R.bind_ok, l]
theorem eAnd_f (h : f ρ = .ok a ρ1) (l : look (nrmO a) ρ1 = some (.bl false)) : eAnd f g ρ = .ok (.val (.bl false)) ρ1 := by
  show (nrm f ρ).bind _ = _
  rw [nrm_ok h, R.bind_ok, l]
theorem eOr_f (h : f ρ = .ok a ρ1) (l : look (nrmO a) ρ1 = some (.bl false)) : eOr f g ρ = g ρ1 := by
  show (nrm f ρ).bind _ = _
  rw [nrm_ok h, R.bind_ok, l]
theorem eOr_t (h : f ρ = .ok a ρ1) (l : look (nrmO a) ρ1 = some (.bl true)) : eOr f g ρ = .ok (.val (.bl true)) ρ1 := by
  show (nrm f ρ).bind _ = _
  rw [nrm_ok h, R.bind_ok, l]
theorem eIf_ok (h : t ρ = .ok c ρ1) : eIf t f g ρ = if c then f ρ1 else g ρ1 := by
  show (t ρ).bind _ = _
  rw [h]; rfl
theorem sSeq_nx (h : s1 ρ = .ok .nx ρ1) : sSeq s1 s2 ρ = s2 ρ1 := by
  show (s1 ρ).bind _ = _
  rw [h]; rfl
theorem sSeq_rt (h : s1 ρ = .ok (.rt o) ρ1) : sSeq s1 s2 ρ = .ok (.rt o) ρ1 := by
  show (s1 ρ).bind _ = _
  rw [h]; rfl
theorem sAsg_ok (h : f ρ = .ok o ρ1) (r : rsv o ρ1 = some (o', ρ2)) (a : asg np i o' ρ2 = some ρ3) : sAsg np i f ρ = .ok .nx ρ3 := by
  show (f ρ).bind _ = _
  rw [h, R.bind_ok, r]; dsimp only; rw [a]
theorem sExpr_ok (h : f ρ = .ok o ρ1) : sExpr f ρ = .ok .nx ρ1 := by
  show (f ρ).bind _ = _
  rw [h]; rfl
theorem sIf_ok (h : t ρ = .ok c ρ1) : sIf t s1 s2 ρ = if c then s1 ρ1 else s2 ρ1 := by
  show (t ρ).bind _ = _
  rw [h]; rfl
theorem sRet_ok (h : f ρ = .ok o ρ1) (r : retO np o ρ1 = some (o', ρ2)) : sRet np f ρ = .ok (.rt o') ρ2 := by
  show (f ρ).bind _ = _
  rw [h, R.bind_ok, r]
theorem sFor_ok {it : M (List D)} {tg : Tg} {r : R Fl} (h : it ρ = .ok ds ρ1) (l : loopF tg s1 ds ρ1 = r) : sFor it tg s1 ρ = r := by
  show (it ρ).bind _ = _
  rw [h, R.bind_ok, l]
theorem loop_cons {tg : Tg} {d : D} {r : R Fl} (ht : tg d ρ = some ρ1) (hb : s1 ρ1 = .ok .nx ρ2) (h : loopF tg s1 ds ρ2 = r) : loopF tg s1 (d :: ds) ρ = r := by
  unfold loopF
  rw [ht]; dsimp only; rw [hb]; exact h
theorem eLc_ok {it : M (List D)} {vs : List Nat} {tg : Tg} {cd : M Bool} {out : List D} (h : it ρ = .ok ds ρ1) (l : lcGo vs tg cd f ds [] (wipeD ρ1 vs) = .ok out ρ2) : eLc it vs tg cd f ρ = .ok (.own (.lst out)) ρ2 := by
  show (it ρ).bind _ = _
  rw [h, R.bind_ok, l]; rfl
end
theorem iRng_ok {fs : List (M Opd)} {ρ ρ1 : DEnv} {os : List Opd} {j : Int} (e : eA fs ρ = .ok os ρ1) (l : looks os ρ1 = some [.int j]) (h1 : -(2 ^ 62) ≤ j) (h2 : j < 2 ^ 62) : iRng fs ρ = .ok (rngL 0 j.toNat) ρ1 := by
  unfold iRng
  rw [e, R.bind_ok, l]
  show (if -(2 ^ 62) ≤ j ∧ j < 2 ^ 62 then R.ok (rngL 0 j.toNat) ρ1 else R.bad) = _
  rw [if_pos ⟨h1, h2⟩]
theorem small62 {n : Nat} (h : n < 2 ^ 30) : (-(2 ^ 62) : Int) ≤ ((n : Nat) : Int) ∧ ((n : Nat) : Int) < 2 ^ 62 := by
  have h62 : (2 : Int) ^ 62 = 4611686018427387904 := by rfl
  rw [h62]; omega
end DL

set_option Elab.async false
set_option linter.all false
set_option maxRecDepth 100000
set_option maxHeartbeats 1000000
/-! How a mirror is run, further. -/
namespace DL
open PySem PySem.Spec L2
open PyProof.Rows hiding St

/-! ### texts -/
/-- a short text -/
def okS (s : Str) : Prop := PyData.strOk s = true ∧ s.length ≤ 10000
theorem shaped_str {s : Str} (h : PyData.strOk s = true) : SeqAt.shaped (PyData.str s) = true := by
  unfold SeqAt.shaped
  rw [Bool.and_eq_true]
  exact ⟨h, by simp [PyData.depth]⟩
theorem eqB_str {a b : Str} (ha : okS a) (hb : okS b) : eqB (.str a) (.str b) = some (decide (a = b)) := by
  unfold eqB
  show (if SeqAt.shaped (PyData.str a) && SeqAt.shaped (PyData.str b) then some (PyData.eqv (.str a) (.str b)) else none) = _
  rw [shaped_str ha.1, shaped_str hb.1]
  have : PyData.eqv (.str a) (.str b) = decide (a = b) := by unfold PyData.eqv; exact Bool.eq_iff_iff.mpr (by simp)
  rw [this]; rfl
theorem eqF_str {a b : Str} (ha : okS a) (hb : okS b) : eqF (.str a) (.str b) = some (.val (.bl (decide (a = b)))) := by unfold eqF; rw [eqB_str ha hb]; rfl
theorem neF_str {a b : Str} (ha : okS a) (hb : okS b) : neF (.str a) (.str b) = some (.val (.bl (!decide (a = b)))) := by unfold neF; rw [eqB_str ha hb]; rfl
theorem eqB_int {i j : Int} : eqB (.int i) (.int j) = some (decide (i = j)) := by
  show some (i == j) = _
  rw [Bool.eq_iff_iff.mpr (by simp : (i == j) = true ↔ decide (i = j) = true)]
theorem eqF_int {i j : Int} : eqF (.int i) (.int j) = some (.val (.bl (decide (i = j)))) := by unfold eqF; rw [eqB_int]; rfl
theorem neF_int {i j : Int} : neF (.int i) (.int j) = some (.val (.bl (!decide (i = j)))) := by unfold neF; rw [eqB_int]; rfl
theorem eqB_pair {i j k l : Int} : eqB (.tup [.int i, .int j]) (.tup [.int k, .int l]) = some (decide (i = k) && decide (j = l)) := by
  show some (i == k && (j == l && true)) = _
  rw [Bool.and_true]
  congr 1
theorem neF_pair {i j k l : Int} : neF (.tup [.int i, .int j]) (.tup [.int k, .int l]) = some (.val (.bl (!(decide (i = k) && decide (j = l))))) := by unfold neF; rw [eqB_pair]; rfl
theorem okS_append {a b : Str} (ha : PyData.strOk a = true) (hb : PyData.strOk b = true) : PyData.strOk (a ++ b) = true := by
  unfold PyData.strOk at *
  rw [Str.cps_append]
  simp only [Array.all_append, Bool.and_eq_true]
  exact ⟨ha, hb⟩
theorem len_append (a b : Str) : (a ++ b).length = a.length + b.length := by
  show (a ++ b).cps.size = _
  rw [Str.cps_append]; simp [Str.length]
theorem addF_str {a b : Str} (h : a.length + b.length ≤ 16777216) : addF (.str a) (.str b) = some (.val (.str (a ++ b))) := by
  show (if _ then _ else _) = _
  rw [if_pos h]

/-! ### comprehensions whose parts change nothing -/
theorem lcGo_pure {vs : List Nat} {t : Tg} {c : M Bool} {f : M Opd} {ρw : DEnv} (p : D → Bool) (g : D → D) : ∀ (ds acc : List D), (∀ d ∈ ds, ∃ ρ1 ρ2, t d ρw = some ρ1 ∧ c ρ1 = .ok (p d) ρ2 ∧ (p d = false → wipeD ρ2 vs = ρw) ∧ (p d = true → ∃ o ρ3 ρ4, f ρ2 = .ok o ρ3 ∧ takeO o ρ3 = some (g d, ρ4) ∧ wipeD ρ4 vs = ρw)) →
    acc.length + ds.length ≤ 16777216 → lcGo vs t c f ds acc ρw = .ok (acc ++ (ds.filter p).map g) ρw
  | [], acc, _, _ => by unfold lcGo; simp
  | d :: ds, acc, h, hl => by
    obtain ⟨ρ1, ρ2, h1, h2, h3, h4⟩ := h d List.mem_cons_self
    have hr := fun x hx => h x (List.mem_cons_of_mem _ hx)
    rw [List.length_cons] at hl
    unfold lcGo
    rw [h1]
    dsimp only
    rw [h2]
    cases hp : p d with
    | false =>
      dsimp only
      rw [h3 hp, lcGo_pure p g ds acc hr (by omega), List.filter_cons, hp]
      rfl
    | true =>
      obtain ⟨o, ρ3, ρ4, e1, e2, e3⟩ := h4 hp
      dsimp only
      rw [e1]
      dsimp only
      rw [e2]
      dsimp only
      rw [if_pos (by omega), e3, lcGo_pure p g ds _ hr (by rw [List.length_append, List.length_singleton]; omega), List.filter_cons, hp]
      simp
/-- .. without a test -/
theorem eLc_map {it : M (List D)} {vs : List Nat} {t : Tg} {f : M Opd} {ρ ρ1 ρw : DEnv} {ds : List D} (g : D → D) (hi : it ρ = .ok ds ρ1) (hw : wipeD ρ1 vs = ρw) (hl : ds.length ≤ 16777216)
    (h : ∀ d ∈ ds, ∃ ρ2 o ρ3 ρ4, t d ρw = some ρ2 ∧ f ρ2 = .ok o ρ3 ∧ takeO o ρ3 = some (g d, ρ4) ∧ wipeD ρ4 vs = ρw) : eLc it vs t tYes' f ρ = .ok (.own (.lst (ds.map g))) ρw := by
  refine eLc_ok hi ?_
  rw [hw, lcGo_pure (fun _ => true) g ds [] (fun d hd => ?_) (by simpa using hl)]
  · rw [List.filter_eq_self.mpr (fun _ _ => rfl), List.nil_append]
  · obtain ⟨ρ2, o, ρ3, ρ4, h1, h2, h3, h4⟩ := h d hd
    exact ⟨ρ2, ρ2, h1, rfl, fun z => (nomatch z), fun _ => ⟨o, ρ3, ρ4, h2, h3, h4⟩⟩

/-! ### calls whose arguments are frozen -/
section
variable {np nN : Nat} {m : M Fl} {fs : List (M Opd)} {ρ ρ1 ρa ρ' : DEnv} {os : List Opd} {d : D} {c : Str}
theorem call_val (h : eA fs ρ = .ok os ρ1) (ha : argsS os ρ1 = some ρa) (hf : allFz ρa = true) (hn : os.length = np) (hm : m (startD nN ρa) = .ok (.rt (.val d)) ρ') : eCall np nN m fs ρ = .ok (.val d) ρ1 := by
  refine eCall_ok h ?_
  unfold callM
  rw [ha]
  dsimp only
  rw [if_pos ⟨hn, apart_allF ha hf⟩, hm]
  unfold finC
  dsimp only
  rw [backD_allF ha hf]
theorem call_own (h : eA fs ρ = .ok os ρ1) (ha : argsS os ρ1 = some ρa) (hf : allFz ρa = true) (hn : os.length = np) (hm : m (startD nN ρa) = .ok (.rt (.own d)) ρ') : eCall np nN m fs ρ = .ok (.own d) ρ1 := by
  refine eCall_ok h ?_
  unfold callM
  rw [ha]
  dsimp only
  rw [if_pos ⟨hn, apart_allF ha hf⟩, hm]
  unfold finC
  dsimp only
  rw [backD_allF ha hf]
theorem call_exc (h : eA fs ρ = .ok os ρ1) (ha : argsS os ρ1 = some ρa) (hf : allFz ρa = true) (hn : os.length = np) (hm : m (startD nN ρa) = .exc c d ρ') : eCall np nN m fs ρ = .exc c d ρ1 := by
  refine eCall_ok h ?_
  unfold callM
  rw [ha]
  dsimp only
  rw [if_pos ⟨hn, apart_allF ha hf⟩, hm]
  unfold finC
  dsimp only
  rw [backD_allF ha hf]
theorem callD_val {cs : List D} (h : eA fs ρ = .ok os ρ1) (ha : argsS (os ++ cs.map Opd.val) ρ1 = some ρa) (hf : allFz ρa = true) (hn : (os ++ cs.map Opd.val).length = np) (hm : m (startD nN ρa) = .ok (.rt (.val d)) ρ') : eCallD np nN m fs cs ρ = .ok (.val d) ρ1 := by
  show (eA fs ρ).bind _ = _
  rw [h, R.bind_ok]
  unfold callM
  rw [ha]
  dsimp only
  rw [if_pos ⟨hn, apart_allF ha hf⟩, hm]
  unfold finC
  dsimp only
  rw [backD_allF ha hf]
end
theorem lnOf_ok {n : Int} {ρ : DEnv} (h : 0 ≤ n ∧ n < 9223372036854775808) : lnOf (R.ok (.val (.int n)) ρ) = .ok (.val (.int n)) ρ := by
  unfold lnOf
  exact if_pos h
theorem eLnO_ok {c : Str} {nN : Nat} {m : M Fl} {f : M Opd} {ρ ρ1 ρ2 : DEnv} {o : Opd} {fs : List D} {n : Int} (hf : f ρ = .ok o ρ1) (l : look (nrmO o) ρ1 = some (.obj c fs)) (hc : callM 1 nN m [nrmO o] ρ1 = .ok (.val (.int n)) ρ2) (b : 0 ≤ n ∧ n < 9223372036854775808) : eLnO c nN m f ρ = .ok (.val (.int n)) ρ2 := by
  unfold eLnO
  rw [nrm_ok hf, R.bind_ok, l]
  dsimp only
  rw [if_pos rfl, hc]
  exact lnOf_ok b
theorem eMut_ok {T : String} {i : Nat} {fs : List (M Opd)} {F : D → List D → Option (D × D)} {ρ ρ1 ρ2 : DEnv} {os : List Opd} {ds : List D} {d d' d2 res : D} (h0 : ρ[i]? = some (some (true, d))) (ht : tyO d = T) (ha : eA fs ρ = .ok os ρ1) (t : takeAll os ρ1 = some (ds, ρ2)) (hr : ρ2[i]? = some (some (true, d'))) (hF : F d' ds = some (d2, res)) :
    eMut T i fs F ρ = .ok (.val res) (ρ2.set i (some (true, d2))) := by
  unfold eMut
  rw [h0]
  dsimp only
  rw [if_pos ht, ha, R.bind_ok, t]
  dsimp only
  unfold finM
  rw [hr]
  dsimp only
  rw [hF]
theorem pop_at {A B : List D} {x : D} {r : Int} (h : r = A.length) (hl : A.length < 2 ^ 20) : popAtF (.lst (A ++ x :: B)) [.int r] = some (.lst (A ++ B), x) := by
  have hi : seqIndex? r (A ++ x :: B).length = some A.length := by
    subst h
    unfold seqIndex?
    have : (A ++ x :: B).length = A.length + (B.length + 1) := by simp
    rw [this]
    simp
    omega
  have b : -(2 ^ 63) ≤ r ∧ r < 2 ^ 63 := by
    have h63 : (2 : Int) ^ 63 = 9223372036854775808 := by rfl
    rw [h63, h]; omega
  have e : (A ++ x :: B)[A.length]? = some x := by simp
  have e2 : (A ++ x :: B).eraseIdx A.length = A ++ B := by
    rw [List.eraseIdx_append_of_length_le (Nat.le_refl _), Nat.sub_self]; rfl
  show (if -(2 ^ 63) ≤ r ∧ r < 2 ^ 63 then (match seqIndex? r (A ++ x :: B).length with
    | some k => (match (A ++ x :: B)[k]? with
      | some d => some (D.lst ((A ++ x :: B).eraseIdx k), d)
      | none => none)
    | none => none) else none) = _
  rw [if_pos b, hi]
  dsimp only
  rw [e, e2]
theorem call_any {np nN : Nat} {m : M Fl} {fs : List (M Opd)} {ρ ρ1 ρa ρ' : DEnv} {os : List Opd} (h : eA fs ρ = .ok os ρ1) (ha : argsS os ρ1 = some ρa) (hn : os.length = np) (hp : apart os ρ1 = true) {r : R Fl} (hm : m (startD nN ρa) = r) : eCall np nN m fs ρ = finC os ρ1 r := by
  refine eCall_ok h ?_
  unfold callM
  rw [ha]
  dsimp only
  rw [if_pos ⟨hn, hp⟩, hm]
end DL

set_option Elab.async false
set_option linter.all false
set_option maxRecDepth 100000
set_option maxHeartbeats 1000000
set_option exponentiation.threshold 10000
namespace DL
open PySem PySem.Spec L2
open PyProof.Rows hiding St
/-- a comprehension with a test, whose parts change nothing -/
theorem eLc_filter {it : M (List D)} {vs : List Nat} {t : Tg} {c : M Bool} {f : M Opd} {ρ ρ1 ρw : DEnv} {ds : List D} (p : D → Bool) (g : D → D) (hi : it ρ = .ok ds ρ1) (hw : wipeD ρ1 vs = ρw) (hl : ds.length ≤ 16777216)
    (h : ∀ d ∈ ds, ∃ ρ1 ρ2, t d ρw = some ρ1 ∧ c ρ1 = .ok (p d) ρ2 ∧ (p d = false → wipeD ρ2 vs = ρw) ∧ (p d = true → ∃ o ρ3 ρ4, f ρ2 = .ok o ρ3 ∧ takeO o ρ3 = some (g d, ρ4) ∧ wipeD ρ4 vs = ρw)) : eLc it vs t c f ρ = .ok (.own (.lst ((ds.filter p).map g))) ρw := by
  refine eLc_ok hi ?_
  rw [hw, lcGo_pure p g ds [] h (by simpa using hl)]
  rw [List.nil_append]
/-! points -/
abbrev Pt : Type := Int × Int
def ptD (z : Pt) : D := .tup [.int z.1, .int z.2]
def ptP (z : Pt) : PyData := .tuple [.int z.1, .int z.2]
theorem toPyL_pts : ∀ F : List Pt, toPyL (F.map ptD) = some (F.map ptP)
  | [] => rfl
  | z :: F => by
    rw [List.map_cons, List.map_cons]
    unfold toPyL
    rw [toPyL_pts F]
    rfl
theorem lay_pts : ∀ F : List Pt, PyData.canLayAll0 (F.map ptP) = true ∧ PyData.depthAll (F.map ptP) ≤ 1
  | [] => ⟨rfl, Nat.zero_le _⟩
  | z :: F => by
    obtain ⟨h1, h2⟩ := lay_pts F
    refine ⟨?_, ?_⟩
    · rw [List.map_cons]
      unfold PyData.canLayAll0
      rw [h1]; rfl
    · rw [List.map_cons]
      unfold PyData.depthAll
      have : (ptP z).depth = 1 := rfl
      rw [this]; omega
theorem shaped_pts (F : List Pt) : SeqAt.shaped (.list (F.map ptP)) = true := by
  obtain ⟨h1, h2⟩ := lay_pts F
  unfold SeqAt.shaped
  have a : (PyData.list (F.map ptP)).canLay0 = true := h1
  have b : (PyData.list (F.map ptP)).depth ≤ 64 := by
    show PyData.depthAll (F.map ptP) + 1 ≤ 64
    omega
  rw [a, decide_eq_true b]; rfl
theorem eqv_pt (z w : Pt) : PyData.eqv (ptP w) (ptP z) = decide (w = z) := by
  obtain ⟨a, b⟩ := z
  obtain ⟨c, d⟩ := w
  show (c == a && (d == b && true)) = _
  rw [Bool.and_true, Bool.eq_iff_iff, decide_eq_true_iff, Bool.and_eq_true, beq_iff_eq, beq_iff_eq, Prod.mk.injEq]
theorem any_pts (z : Pt) : ∀ F : List Pt, ((F.map ptP).any fun y => PyData.eqv y (ptP z)) = decide (z ∈ F)
  | [] => by simp
  | w :: F => by
    rw [List.map_cons, List.any_cons, any_pts z F, eqv_pt, Bool.eq_iff_iff, decide_eq_true_iff, Bool.or_eq_true, decide_eq_true_iff, decide_eq_true_iff, List.mem_cons, eq_comm]
theorem inB_pts (z : Pt) (F : List Pt) : inB (ptD z) (.lst (F.map ptD)) = some (decide (z ∈ F)) := by
  show (match toPy (ptD z), toPyL (F.map ptD) with
    | some p, some ps => if SeqAt.shaped p && SeqAt.shaped (.list ps) then some (ps.any fun z => PyData.eqv z p) else none
    | _, _ => none) = _
  rw [toPyL_pts F]
  have : toPy (ptD z) = some (ptP z) := rfl
  rw [this]
  dsimp only
  rw [shaped_pts F, any_pts]
  rfl
theorem notIn_pts (z : Pt) (F : List Pt) : notInF (ptD z) (.lst (F.map ptD)) = some (.val (.bl (!decide (z ∈ F)))) := by unfold notInF; rw [inB_pts]; rfl
theorem neF_nil (F : List Pt) : neF (.lst (F.map ptD)) (.lst []) = some (.val (.bl (!decide (F = [])))) := by
  unfold neF eqB
  have h1 : toPy (.lst (F.map ptD)) = some (.list (F.map ptP)) := by
    show (toPyL (F.map ptD)).map PyData.list = _
    rw [toPyL_pts]; rfl
  have h2 : toPy (.lst []) = some (.list []) := rfl
  rw [h1, h2]
  dsimp only
  rw [shaped_pts F]
  have h3 : SeqAt.shaped (.list []) = true := rfl
  rw [h3]
  cases F with
  | nil => rfl
  | cons z F => rfl
theorem atI_map {α β : Type} (g : α → β) (xs : List α) (i : Int) : atI (xs.map g) i = (atI xs i).map g := by
  unfold atI
  rw [List.length_map]
  cases ixN xs.length i with
  | none => rfl
  | some j => show (xs.map g)[j]? = (xs[j]?).map g; rw [List.getElem?_map]
theorem loopW_end {t : M Bool} {b : M Fl} {n : Nat} {ρ ρ1 : DEnv} (h : t ρ = .ok false ρ1) : loopW t b (n + 1) ρ = .ok .nx ρ1 := by
  unfold loopW; rw [h]; rfl
theorem loopW_on {t : M Bool} {b : M Fl} {n : Nat} {ρ ρ1 ρ2 : DEnv} (h : t ρ = .ok true ρ1) (h2 : b ρ1 = .ok .nx ρ2) : loopW t b (n + 1) ρ = loopW t b n ρ2 := by
  show (t ρ).bind _ = _
  rw [h, R.bind_ok]
  show (b ρ1).bind _ = _
  rw [h2]; rfl
theorem sPar_ok {np i j : Nat} {f g : M Opd} {ρ ρ1 ρ2 ρ3 ρ4 : DEnv} {o1 o2 x1 x2 : Opd} (h1 : f ρ = .ok o1 ρ1) (h2 : g ρ1 = .ok o2 ρ2) (r1 : rsvP o1 ρ2 = some x1) (r2 : rsvP o2 ρ2 = some x2) (a1 : asg np i x1 ρ2 = some ρ3) (a2 : asg np j x2 ρ3 = some ρ4) : sPar np i j f g ρ = .ok .nx ρ4 := by
  show (f ρ).bind _ = _
  rw [h1, R.bind_ok]
  show (g ρ1).bind _ = _
  rw [h2, R.bind_ok, r1, r2]
  dsimp only
  rw [a1]
  dsimp only
  rw [a2]
theorem sAsgT_ok {t : Tg} {f : M Opd} {ρ ρ1 ρ2 ρ3 : DEnv} {o : Opd} {d : D} (h : f ρ = .ok o ρ1) (r : takeO o ρ1 = some (d, ρ2)) (a : t d ρ2 = some ρ3) : sAsgT t f ρ = .ok .nx ρ3 := by
  unfold sAsgT
  rw [h, R.bind_ok, r]
  dsimp only
  rw [a]
end DL

set_option Elab.async false
set_option linter.all false
set_option maxRecDepth 100000
set_option maxHeartbeats 1000000
set_option exponentiation.threshold 10000
namespace DL
open PySem PySem.Spec L2
open PyProof.Rows hiding St
theorem bd_mul {i j : Int} {a b : Nat} (ha : i.natAbs < 2 ^ a) (hb : j.natAbs < 2 ^ b) : (i * j).natAbs < 2 ^ (a + b) := wide_lt ha hb
theorem bd_two {a b : Nat} : 2 ^ a + 2 ^ b ≤ 2 ^ (a + b + 1) := by
  have h1 : 2 ^ a ≤ 2 ^ (a + b) := Nat.pow_le_pow_right (by decide) (Nat.le_add_right _ _)
  have h2 : 2 ^ b ≤ 2 ^ (a + b) := Nat.pow_le_pow_right (by decide) (Nat.le_add_left _ _)
  rw [Nat.pow_succ]; omega
theorem bd_add {i j : Int} {a b : Nat} (ha : i.natAbs < 2 ^ a) (hb : j.natAbs < 2 ^ b) : (i + j).natAbs < 2 ^ (a + b + 1) := by
  have h := bd_two (a := a) (b := b)
  have h3 := Int.natAbs_add_le i j
  omega
theorem bd_sub {i j : Int} {a b : Nat} (ha : i.natAbs < 2 ^ a) (hb : j.natAbs < 2 ^ b) : (i - j).natAbs < 2 ^ (a + b + 1) := by
  have h := bd_two (a := a) (b := b)
  have h3 := Int.natAbs_sub_le i j
  omega
/-- f tells i, of at most k places -/
structure EvI (f : M Opd) (ρ : DEnv) (i : Int) (k : Nat) : Prop where
  ex : ∃ o, f ρ = .ok o ρ ∧ look (nrmO o) ρ = some (.int i)
  bd : i.natAbs < 2 ^ k
structure EvV (f : M Opd) (ρ : DEnv) (i : Int) (k : Nat) : Prop where
  ex : f ρ = .ok (.val (.int i)) ρ
  bd : i.natAbs < 2 ^ k
theorem EvV.i {f : M Opd} {ρ : DEnv} {i : Int} {k : Nat} (h : EvV f ρ i k) : EvI f ρ i k := ⟨⟨_, h.ex, rfl⟩, h.bd⟩
section
variable {f g : M Opd} {ρ : DEnv} {i j : Int} {a b k n : Nat}
theorem EvI.slot {fl : Bool} (h : ρ[n]? = some (some (fl, .int i))) (hb : i.natAbs < 2 ^ k) : EvI (eV n) ρ i k := ⟨⟨.slot n, eV_ok h, by show look (.slot n) ρ = _; unfold look; dsimp only; rw [h]⟩, hb⟩
theorem EvI.con (hb : i.natAbs < 2 ^ k) : EvI (eC (.int i)) ρ i k := ⟨⟨_, rfl, rfl⟩, hb⟩
theorem EvI.mul (h1 : EvI f ρ i a) (h2 : EvI g ρ j b) (ha : 0 < a := by decide) (hb : 0 < b := by decide) (hab : a + b ≤ 1000000 := by decide) : EvV (e2 f g mulF) ρ (i * j) (a + b) := by
  obtain ⟨o1, e1, l1⟩ := h1.ex
  obtain ⟨o2, e2', l2⟩ := h2.ex
  exact ⟨e2_ok e1 e2' l1 l2 (mulF_ok a b h1.bd h2.bd ha hb hab), bd_mul h1.bd h2.bd⟩
theorem EvI.add (h1 : EvI f ρ i a) (h2 : EvI g ρ j b) : EvV (e2 f g addF) ρ (i + j) (a + b + 1) := by
  obtain ⟨o1, e1, l1⟩ := h1.ex
  obtain ⟨o2, e2', l2⟩ := h2.ex
  exact ⟨e2_ok e1 e2' l1 l2 rfl, bd_add h1.bd h2.bd⟩
theorem EvI.sub (h1 : EvI f ρ i a) (h2 : EvI g ρ j b) : EvV (e2 f g subF) ρ (i - j) (a + b + 1) := by
  obtain ⟨o1, e1, l1⟩ := h1.ex
  obtain ⟨o2, e2', l2⟩ := h2.ex
  exact ⟨e2_ok e1 e2' l1 l2 rfl, bd_sub h1.bd h2.bd⟩
theorem EvI.eq (h1 : EvI f ρ i a) (h2 : EvI g ρ j b) : e2 f g eqF ρ = .ok (.val (.bl (decide (i = j)))) ρ := by
  obtain ⟨o1, e1, l1⟩ := h1.ex
  obtain ⟨o2, e2', l2⟩ := h2.ex
  exact e2_ok e1 e2' l1 l2 eqF_int
theorem EvI.ne (h1 : EvI f ρ i a) (h2 : EvI g ρ j b) : e2 f g neF ρ = .ok (.val (.bl (!decide (i = j)))) ρ := by
  obtain ⟨o1, e1, l1⟩ := h1.ex
  obtain ⟨o2, e2', l2⟩ := h2.ex
  exact e2_ok e1 e2' l1 l2 neF_int
theorem EvI.gt (h1 : EvI f ρ i a) (h2 : EvI g ρ j b) : e2 f g gtF ρ = .ok (.val (.bl (decide (i > j)))) ρ := by
  obtain ⟨o1, e1, l1⟩ := h1.ex
  obtain ⟨o2, e2', l2⟩ := h2.ex
  exact e2_ok e1 e2' l1 l2 rfl
theorem EvI.lt (h1 : EvI f ρ i a) (h2 : EvI g ρ j b) : e2 f g ltF ρ = .ok (.val (.bl (decide (i < j)))) ρ := by
  obtain ⟨o1, e1, l1⟩ := h1.ex
  obtain ⟨o2, e2', l2⟩ := h2.ex
  exact e2_ok e1 e2' l1 l2 rfl
theorem EvI.opd (h : EvI f ρ i a) : ∃ o, eA [f] ρ = .ok [nrmO o] ρ ∧ look (nrmO o) ρ = some (.int i) := by
  obtain ⟨o1, e1, l1⟩ := h.ex
  exact ⟨o1, eA_cons e1 eA_nil, l1⟩
/-- a part of a triple in a slot -/
theorem EvI.ix {fl : Bool} {d : D} {c : M Opd} {ci : Int} (h : ρ[n]? = some (some (fl, d))) (hc : c ρ = .ok (.val (.int ci)) ρ) (hx : ixF d (.int ci) = some (.val (.int i))) (hb : i.natAbs < 2 ^ k) : EvV (e2 (eV n) c ixF) ρ i k :=
  ⟨e2_ok (eV_ok h) hc (by show look (.slot n) ρ = _; unfold look; dsimp only; rw [h]) rfl hx, hb⟩
/-- the sign, as the code tells it -/
theorem EvI.sign (h : EvI f ρ i a) : EvV (e2 (eB [(e2 f (eC (.int 0)) gtF)] intF) (eB [(e2 f (eC (.int 0)) ltF)] intF) subF) ρ ((if decide (i > 0) = true then 1 else 0) - (if decide (i < 0) = true then 1 else 0)) 2 := by
  have z : EvI (eC (.int 0)) ρ 0 1 := .con (by decide)
  refine ⟨e2_ok (eB_ok (eA_cons (h.gt z) eA_nil) rfl rfl) (eB_ok (eA_cons (h.lt z) eA_nil) rfl rfl) rfl rfl rfl, ?_⟩
  split <;> split <;> decide
end
end DL

set_option Elab.async false
set_option linter.all false
set_option maxRecDepth 100000
set_option maxHeartbeats 1000000
namespace DL
open PySem PySem.Spec L2
open PyProof.Rows hiding St
theorem char_lt (ch : Char) : ch.toNat < 0x110000 := by
  rcases ch.valid with h | ⟨_, h⟩
  · show ch.val.toNat < _
    have : ch.val.toNat < 0xd800 := h
    omega
  · exact h
theorem digs_lt {b n y : Nat} (h : y ∈ (Nat.toDigits b n).map Char.toNat) : y < 0x110000 := by
  obtain ⟨ch, _, rfl⟩ := List.mem_map.mp h
  exact char_lt ch
theorem reprChar_lt {q c y : Nat} (hc : c < 0x110000) (h : y ∈ Builtin.Str.reprChar q c) : y < 0x110000 := by
  unfold Builtin.Str.reprChar at h
  dsimp only at h
  have hx : ∀ {w y : Nat}, y ∈ List.replicate (w - ((Nat.toDigits 16 c).map Char.toNat).length) 48 ++ (Nat.toDigits 16 c).map Char.toNat → y < 0x110000 := fun {w y} h => by
    rcases List.mem_append.mp h with h | h
    · rw [(List.mem_replicate.mp h).2]; decide
    · exact digs_lt h
  split at h
  · rcases List.mem_cons.mp h with rfl | h
    · decide
    · rw [List.mem_singleton.mp h]; exact hc
  split at h
  · simp at h; omega
  split at h
  · simp at h; omega
  split at h
  · simp at h; omega
  split at h
  · rw [List.mem_singleton.mp h]; exact hc
  split at h
  · rcases List.mem_append.mp h with h | h
    · simp at h; omega
    · exact hx h
  split at h
  · rcases List.mem_append.mp h with h | h
    · simp at h; omega
    · exact hx h
  · rcases List.mem_append.mp h with h | h
    · simp at h; omega
    · exact hx h
theorem fold_lt (q : Nat) : ∀ (l : List Nat) (acc : Array Nat), (∀ y ∈ acc.toList, y < 0x110000) → (∀ c ∈ l, c < 0x110000) → ∀ y ∈ (l.foldl (fun out c => out ++ (Builtin.Str.reprChar q c).toArray) acc).toList, y < 0x110000
  | [], acc, h, _, y, hy => h y hy
  | c :: l, acc, h, hl, y, hy => by
    refine fold_lt q l _ (fun z hz => ?_) (fun z hz => hl z (List.mem_cons_of_mem _ hz)) y hy
    rw [Array.toList_append] at hz
    rcases List.mem_append.mp hz with hz | hz
    · exact h z hz
    · exact reprChar_lt (hl c List.mem_cons_self) hz
theorem strOk_repr {x : Str} (h : PyData.strOk x = true) : PyData.strOk (reprText x) = true := by
  have hx : ∀ c ∈ x.cps.toList, c < 0x110000 := by
    unfold PyData.strOk at h
    rw [← Array.all_toList, List.all_eq_true] at h
    intro c hc
    simpa using h c hc
  unfold PyData.strOk
  rw [← Array.all_toList, List.all_eq_true]
  intro y hy
  have hq : reprQuote x < 0x110000 := by
    unfold reprQuote
    split <;> decide
  unfold reprText at hy
  rw [Array.toList_push] at hy
  rcases List.mem_append.mp hy with hy | hy
  · rw [← Array.foldl_toList] at hy
    have := fold_lt _ x.cps.toList _ (fun z hz => by
      have : z = reprQuote x := by simpa using hz
      rw [this]; exact hq) hx y hy
    simpa using this
  · rw [List.mem_singleton.mp hy]; simpa using hq
theorem strOk_lit (s : String) : PyData.strOk (Str.ofString s) = true := by
  unfold PyData.strOk
  rw [← Array.all_toList, List.all_eq_true]
  intro c hc
  rw [show (Str.ofString s).cps.toList = s.toList.map Char.toNat from TL.tl_ofString s] at hc
  obtain ⟨ch, _, rfl⟩ := List.mem_map.mp hc
  simpa using char_lt ch
theorem textFrom_ok : ∀ (ts : List Str) (k : Nat) (acc : Str), PyData.strOk acc = true → (∀ t ∈ ts, PyData.strOk t = true) → PyData.strOk (textFrom k acc ts) = true
  | [], _, _, h, _ => h
  | t :: r, k, acc, h, ht => textFrom_ok r (k + 1) _ (okS_append (okS_append h (strOk_lit _)) (ht t List.mem_cons_self)) fun z hz => ht z (List.mem_cons_of_mem _ hz)
theorem join_ok : ∀ (ts : List Str), (∀ t ∈ ts, PyData.strOk t = true) → PyData.strOk (Str.join ", " ts) = true
  | [], _ => strOk_lit ""
  | [t], h => h t List.mem_cons_self
  | t :: u :: r, h => by
    show PyData.strOk (t ++ ", " ++ Str.join ", " (u :: r)) = true
    exact okS_append (okS_append (h t List.mem_cons_self) (strOk_lit _)) (join_ok (u :: r) fun z hz => h z (List.mem_cons_of_mem _ hz))
mutual
theorem shown_ok : ∀ d : PyData, d.canLay0 = true → PyData.strOk d.shown = true
  | .none, _ => strOk_lit _
  | .bool b, _ => by cases b <;> exact strOk_lit _
  | .int i, _ => strOk_lit _
  | .str x, h => strOk_repr h
  | .list xs, h => okS_append (textFrom_ok _ 0 _ (strOk_lit _) (shownAll_ok xs h)) (strOk_lit _)
  | .tuple xs, h => okS_append (okS_append (strOk_lit _) (join_ok _ (shownAll_ok xs h))) (strOk_lit _)
  | .dict _, h => by cases h
theorem shownAll_ok : ∀ xs : List PyData, PyData.canLayAll0 xs = true → ∀ t ∈ PyData.shownAll xs, PyData.strOk t = true
  | [], _, t, ht => absurd ht List.not_mem_nil
  | x :: xs, h, t, ht => by
    obtain ⟨h1, h2⟩ := Bool.and_eq_true_iff.mp h
    rcases List.mem_cons.mp ht with rfl | ht
    · exact shown_ok x h1
    · exact shownAll_ok xs h2 t ht
end
theorem eqB_self {s : Str} (h : PyData.strOk s = true) : eqB (.str s) (.str s) = some true := by
  unfold eqB
  show (if SeqAt.shaped (PyData.str s) && SeqAt.shaped (PyData.str s) then some (PyData.eqv (.str s) (.str s)) else none) = _
  rw [shaped_str h]
  have : PyData.eqv (.str s) (.str s) = true := by unfold PyData.eqv; simp
  rw [this]; rfl
theorem neF_self {s : Str} (h : PyData.strOk s = true) : neF (.str s) (.str s) = some (.val (.bl false)) := by unfold neF; rw [eqB_self h]; rfl
/-- the repr of plain data, and that it is like itself -/
theorem repr_self {d : D} {p : PyData} (hp : toPy d = some p) (hc : p.canLay0 = true) (hs : p.showable = true) (hl : p.shown.length ≤ 16777216) (hd : p.depth ≤ 40) : reprF [d] = some (.val (.str p.shown)) ∧ neF (.str p.shown) (.str p.shown) = some (.val (.bl false)) := by
  refine ⟨?_, neF_self (shown_ok p hc)⟩
  show (match toPy d with
    | some p => if p.showable = true ∧ p.shown.length ≤ 16777216 ∧ p.depth ≤ 40 then some (Opd.val (.str p.shown)) else none
    | none => none) = _
  rw [hp]
  exact if_pos ⟨hs, hl, hd⟩
end DL

set_option Elab.async false
set_option linter.all false
set_option maxRecDepth 100000
set_option maxHeartbeats 1000000
namespace DL
open PySem PySem.Spec L2
open PyProof.Rows hiding St
theorem toPyL_strs : ∀ ns : List Str, toPyL (ns.map D.str) = some (ns.map PyData.str)
  | [] => rfl
  | n :: ns => by
    rw [List.map_cons, List.map_cons]
    unfold toPyL
    rw [toPyL_strs ns]
    rfl
theorem lay_strs : ∀ {ns : List Str}, (∀ n ∈ ns, PyData.strOk n = true) → PyData.canLayAll0 (ns.map PyData.str) = true ∧ PyData.depthAll (ns.map PyData.str) = 0
  | [], _ => ⟨rfl, rfl⟩
  | n :: ns, h => by
    obtain ⟨h1, h2⟩ := lay_strs (ns := ns) fun z hz => h z (List.mem_cons_of_mem _ hz)
    refine ⟨?_, ?_⟩
    · rw [List.map_cons]
      show (PyData.canLay0 (.str n) && PyData.canLayAll0 (ns.map PyData.str)) = true
      rw [h1, show PyData.canLay0 (.str n) = true from h n List.mem_cons_self]; rfl
    · rw [List.map_cons]
      show max (PyData.depth (.str n)) (PyData.depthAll (ns.map PyData.str)) = 0
      rw [h2]; rfl
theorem any_strs (s : Str) : ∀ ns : List Str, ((ns.map PyData.str).any fun z => PyData.eqv z (.str s)) = ns.any fun y => decide (y = s)
  | [] => rfl
  | n :: ns => by
    rw [List.map_cons, List.any_cons, List.any_cons, any_strs s ns]
    have : PyData.eqv (.str n) (.str s) = decide (n = s) := by unfold PyData.eqv; exact Bool.eq_iff_iff.mpr (by simp)
    rw [this]
theorem inB_strs {ns : List Str} (h : ∀ n ∈ ns, PyData.strOk n = true) {s : Str} (hs : PyData.strOk s = true) : inB (.str s) (.lst (ns.map D.str)) = some (ns.any fun y => decide (y = s)) := by
  show (match toPy (.str s), toPyL (ns.map D.str) with
    | some p, some ps => if SeqAt.shaped p && SeqAt.shaped (.list ps) then some (ps.any fun z => PyData.eqv z p) else none
    | _, _ => none) = _
  rw [toPyL_strs]
  obtain ⟨h1, h2⟩ := lay_strs h
  have sl : SeqAt.shaped (.list (ns.map PyData.str)) = true := by
    unfold SeqAt.shaped
    have a : (PyData.list (ns.map PyData.str)).canLay0 = true := h1
    have b : (PyData.list (ns.map PyData.str)).depth ≤ 64 := by
      show PyData.depthAll (ns.map PyData.str) + 1 ≤ 64
      omega
    rw [a, decide_eq_true b]; rfl
  show (if SeqAt.shaped (PyData.str s) && SeqAt.shaped (.list (ns.map PyData.str)) then some ((ns.map PyData.str).any fun z => PyData.eqv z (.str s)) else none) = _
  rw [sl, shaped_str hs, any_strs]
  rfl
end DL

set_option maxHeartbeats 0
namespace K02
open PySem PySem.Spec L2 DL
open PyProof.Rows hiding St

abbrev prog : Program := PySem.Challenge.pw_untoldhomes_k02_texts_of_no_town
def top (i : Nat) : Stmt := prog.main.body.getD i (.Pass ⟨0, 0, 0, 0⟩)
def errs : List Str := ["HomeError", "BadTown", "NoPlace", "BadPlace", "Full", "Few"]
def owns : List Str := ["Town"]
def fr : List Str := ["abs", "all", "bool", "enumerate", "int", "isinstance", "len", "list", "max", "min", "range", "repr", "str", "tuple", "zip"]
def slots : List (Str × Str × Nat) := [("Town", "own_places", 0), ("Town", "own_text", 1)]
def cons : List (Str × D) := [("MOST_LETTERS", (.int 8)), ("LETTERS", (.str "abcdefghijklmnopqrstuvwxyz")), ("MINUS", (.str "-")), ("FIGURES", (.str "0123456789")), ("BLANK", (.str " ")), ("LINE_SIZE", (.int 4)), ("PLACE", (.str "place")), ("EDGE", (.int 20)), ("FEED", (.str "\n")), ("MOST", (.int 6)), ("FEWEST", (.int 2)), ("TRIPLE", (.int 3))]
def n_law_cells : List Str := ["_law_script", "_law_limit"]
def m_law_cells : M Fl := (sRet 2 (eLRg (eB [(eC (.int 1)), (eB [(eV 1), (eB [(eV 0)] lenF)] minF)] maxF)))
def n_law_pot : List Str := ["_law_script", "_law_place", "_law_cell", "_law_own", "_law_small"]
def m_law_pot : M Fl := (sSeq (sAsg 2 2 (eIf (tV (e2 (eV 1) (eB [(eV 0)] lenF) ltF)) (e2 (eV 0) (eV 1) ixF) (e2 (e2 (eC (.int 335)) (eV 1) mulF) (eC (.int 153)) addF)))
  (sSeq (sAsg 2 3 (e2 (e2 (eB [(eB [(eV 2)] absF)] intF) (e2 (e2 (eC (.int 10)) (eC (.int 60)) powF) (eC (.int 5)) powF) modF) (eB [(e2 (eB [(eV 2)] absF) (e2 (eC (.int 10)) (eC (.int 18)) powF) geF)] intF) mulF))
  (sSeq (sAsg 2 4 (e2 (eB [(eV 2)] intF) (eC (.int 2305843009213693951)) modF))
  (sRet 2 (eLst [(eV 3), (e2 (eB [(e2 (e2 (e2 (eV 4) (eC (.int 72005)) mulF) (e2 (e2 (eC (.int 7331)) (eV 1) mulF) (eV 1) mulF) addF) (eC (.int 167)) addF)] intF) (eC (.int 2305843009213693921)) modF), (eC (.int 0))])))))
def n_law_take : List Str := ["_law_pot_here", "_law_upto", "_law_digit", "_law_prime", "_law_blend"]
def m_law_take : M Fl := (sSeq (sIf (tV (e2 (e2 (eV 0) (eC (.int 0)) ixF) (eC (.int 0)) gtF)) (sSeq (sAsg 2 2 (e2 (eB [(e2 (eV 0) (eC (.int 0)) ixF)] intF) (eV 1) modF))
  (sSeq (sSetI 0 (eC (.int 0)) (e2 (e2 (eV 0) (eC (.int 0)) ixF) (eV 1) divF) setF)
  (sRet 2 (eV 2)))) sNil)
  (sSeq (sSetI 0 (eC (.int 2)) (e2 (e2 (eV 0) (eC (.int 2)) ixF) (eC (.int 1)) addF) setF)
  (sSeq (sAsg 2 3 (e2 (eLst [(eC (.int 2147483647)), (eC (.int 2147483629)), (eC (.int 2147483587)), (eC (.int 2147483579)), (eC (.int 2147483563))]) (e2 (eB [(e2 (eV 0) (eC (.int 2)) ixF)] intF) (eC (.int 5)) modF) ixF))
  (sSeq (sAsg 2 4 (e2 (eB [(e2 (eB [(e2 (e2 (e2 (eV 0) (eC (.int 1)) ixF) (e2 (e2 (eC (.int 100809)) (e2 (eV 0) (eC (.int 2)) ixF) mulF) (e2 (eV 0) (eC (.int 2)) ixF) mulF) addF) (eC (.int 71)) addF)] intF) (eC (.int 3)) powF)] intF) (eV 3) modF))
  (sSeq (sAsg 2 4 (e2 (eB [(e2 (eV 4) (e2 (e2 (eB [(eV 4)] intF) (eC (.int 10433)) modF) (e2 (eC (.int 199)) (e2 (eV 0) (eC (.int 2)) ixF) mulF) addF) mulF)] intF) (eC (.int 2305843009213693907)) modF))
  (sRet 2 (e2 (eB [(e2 (eV 4) (eC (.int 139)) divF)] intF) (eV 1) modF)))))))
def n_law_of : List Str := ["_law_pot_here", "_law_some_here"]
def m_law_of : M Fl := (sRet 2 (e2 (eV 1) (eCall 2 5 m_law_take [(eV 0), (eB [(eV 1)] lenF)]) ixF))
def n_law_some : List Str := ["_law_pot_here", "_law_pool", "_law_many", "_law_rest", "_law_found", "_law_turn"]
def m_law_some : M Fl := (sSeq (sPar 3 3 4 (eB [(eV 1)] listF) (eLst []))
  (sSeq (sFor (iRng [(eV 2)]) (tgN 3 5) (sExpr (eMut "list" 4 [(eMut "list" 3 [(eCall 2 5 m_law_take [(eV 0), (eB [(eV 3)] lenF)])] popAtF)] appF)))
  (sRet 3 (eV 4))))
def n_law_names : List Str := ["_law_pot_here", "_law_many", "_law_pool"]
def m_law_names : M Fl := (sSeq (sAsg 2 2 (eLst [(eC (.str "a")), (eC (.str "b")), (eC (.str "c")), (eC (.str "d")), (eC (.str "e")), (eC (.str "place")), (eC (.str "talk")), (eC (.str "near")), (eC (.str "alike")), (eC (.str "zzzzzzzz")), (eC (.str "open")), (eC (.str "close")), (eC (.str "x")), (eC (.str "y"))]))
  (sRet 2 (eCall 3 6 m_law_some [(eV 0), (eV 2), (eV 1)])))
def n_law_points : List Str := ["_law_pot_here", "_law_many", "_law_far", "_law_sort", "_law_found", "_law_x", "_law_y", "_law_one", "_law_some_here", "_law_tries", "_law_spot"]
def m_law_points : M Fl := (sSeq (sPar 3 3 4 (eCall 2 5 m_law_take [(eV 0), (eC (.int 4))]) (eLst []))
  (sSeq (sWhile fuel (tV (e2 (eB [(eV 4)] lenF) (eV 1) ltF)) (sSeq (sPar 3 5 6 (e2 (eCall 2 5 m_law_take [(eV 0), (e2 (e2 (eC (.int 2)) (eV 2) mulF) (eC (.int 1)) addF)]) (eV 2) subF) (e2 (eCall 2 5 m_law_take [(eV 0), (e2 (e2 (eC (.int 2)) (eV 2) mulF) (eC (.int 1)) addF)]) (eV 2) subF))
  (sSeq (sIf (tV (e2 (eV 3) (eC (.int 1)) eqF)) (sPar 3 5 6 (e2 (eLst [(e1 (eV 2) negF), (eC (.int 0)), (eV 2), (eC (.int 1))]) (e2 (eB [(eV 5)] intF) (eC (.int 4)) modF) ixF) (e2 (eLst [(e1 (eV 2) negF), (eC (.int 0)), (eV 2), (eC (.int 2))]) (e2 (eB [(eV 6)] intF) (eC (.int 4)) modF) ixF)) sNil)
  (sSeq (sIf (tAnd' (tV (e2 (eV 3) (eC (.int 2)) eqF)) (tV (e2 (eV 4) (eLst []) neF))) (sSeq (sAsg 3 7 (eCall 2 2 m_law_of [(eV 0), (eV 4)]))
  (sSeq (sAsg 3 8 (eLst [(eTup [(e2 (eV 7) (eC (.int 1)) ixF), (e2 (eV 7) (eC (.int 0)) ixF)]), (eTup [(e1 (e2 (eV 7) (eC (.int 0)) ixF) negF), (e2 (eV 7) (eC (.int 1)) ixF)]), (eTup [(e2 (eV 7) (eC (.int 0)) ixF), (e1 (e2 (eV 7) (eC (.int 1)) ixF) negF)]), (eTup [(e1 (e2 (eV 7) (eC (.int 1)) ixF) negF), (e1 (e2 (eV 7) (eC (.int 0)) ixF) negF)]), (eTup [(eV 5), (e2 (eV 7) (eC (.int 1)) ixF)])]))
  (sAsgT (tgA 2 [(tgN 3 5), (tgN 3 6)]) (eCall 2 2 m_law_of [(eV 0), (eV 8)])))) sNil)
  (sSeq (sAsg 3 9 (eLst [(eTup [(eV 5), (eV 6)]), (eTup [(e2 (eB [(eV 5)] intF) (eC (.int 2)) divF), (eV 6)]), (eTup [(eV 5), (e2 (eB [(eV 6)] intF) (eC (.int 2)) divF)]), (eTup [(e2 (eB [(eV 4)] lenF) (eV 2) subF), (eV 2)]), (eTup [(eV 2), (e2 (eB [(eV 4)] lenF) (eV 2) subF)])]))
  (sExpr (eMut "list" 4 [(e2 (eLc (iOf anyK (e2 (eV 9) (eLst [(eTup [(e1 (eV 2) negF), (e1 (eV 2) negF)]), (eTup [(eV 2), (eV 2)]), (eTup [(eC (.int 0)), (eC (.int 0))]), (eTup [(eC (.int 1)), (eC (.int 0))])]) addF)) [10] (tgN 3 10) (tV (e2 (eV 10) (eV 4) notInF)) (eV 10)) (eC (.int 0)) ixF)] appF)))))))
  (sRet 3 (eV 4))))
def n_law_town : List Str := ["_law_pot_here", "_law_fewest", "_law_most", "_law_far", "_law_many", "_law_name", "_law_spot"]
def m_law_town : M Fl := (sSeq (sAsg 4 4 (e2 (eV 1) (eCall 2 5 m_law_take [(eV 0), (e2 (e2 (eV 2) (eV 1) subF) (eC (.int 1)) addF)]) addF))
  (sRet 4 (eLc (iZp [(eCall 2 3 m_law_names [(eV 0), (eV 4)]), (eCall 3 11 m_law_points [(eV 0), (eV 4), (eV 3)])]) [5, 6] (tgA 2 [(tgN 4 5), (tgN 4 6)]) tYes' (e2 (eTup [(eV 5)]) (eV 6) addF))))
def n_law_text : List Str := ["_law_town_here", "_law_name", "_law_x", "_law_y"]
def m_law_text : M Fl := (sRet 1 (eM1 (eC (.str "\n")) (eLc (iOf anyK (eV 0)) [1, 2, 3] (tgA 3 [(tgN 1 1), (tgN 1 2), (tgN 1 3)]) tYes' (e2 (e2 (e2 (e2 (e2 (eC (.str "place ")) (eV 1) addF) (eC (.str " ")) addF) (eB [(eV 2)] strF) addF) (eC (.str " ")) addF) (eB [(eV 3)] strF) addF)) joinF))
def n_law_number_in : List Str := ["_law_word", "_law_known", "_law_number"]
def m_law_number_in : M Fl := (sSeq (sAsg 1 1 (eLc (iRng2 [(e1 (eC (.int 20)) negF), (eC (.int 21))]) [2] (tgN 1 2) tYes' (eB [(eV 2)] strF)))
  (sRet 1 (eIf (tV (e2 (eV 0) (eV 1) inF)) (e2 (eL1 (eV 1) (eV 0) lidxF) (eC (.int 20)) subF) (eC (.int 99)))))
def n_law_wrong_line : List Str := ["_law_text_here", "_law_names_here", "_law_points_here", "_law_rows", "_law_at", "_law_piece", "_law_words", "_law_x", "_law_y", "_law_sign"]
def m_law_wrong_line : M Fl := (sSeq (sPar3 1 1 2 3 (eLst []) (eLst []) (eM1 (eV 0) (eC (.str "\n")) splitF))
  (sSeq (sFor (iEn (eV 3)) (tgA 2 [(tgN 1 4), (tgN 1 5)]) (sSeq (sAsg 1 6 (eM1 (eV 5) (eC (.str " ")) splitF))
  (sSeq (sIf (tOr' (tV (e2 (eB [(eV 6)] lenF) (eC (.int 4)) neF)) (tOr' (tV (e2 (e2 (eV 6) (eC (.int 0)) ixF) (eC (.str "place")) neF)) (tOr' (tNot' (tV (eCh (eC (.int 1)) (eB [(e2 (eV 6) (eC (.int 1)) ixF)] lenF) (eC (.int 8)) leF leF))) (tV (e2 (eB [(eV 1)] lenF) (eC (.int 5)) gtF))))) (sRet 1 (e2 (eV 4) (eC (.int 1)) addF)) sNil)
  (sSeq (sIf (tOr' (tNot' (tV (eB [(eLc (iOf anyK (e2 (eV 6) (eC (.int 1)) ixF)) [9] (tgN 1 9) tYes' (e2 (eV 9) (eC (.str "abcdefghijklmnopqrstuvwxyz")) inF))] allF))) (tV (e2 (e2 (eV 6) (eC (.int 1)) ixF) (eV 1) inF))) (sRet 1 (e2 (eV 4) (eC (.int 1)) addF)) sNil)
  (sSeq (sPar 1 7 8 (eCall 1 3 m_law_number_in [(e2 (eV 6) (eC (.int 2)) ixF)]) (eCall 1 3 m_law_number_in [(e2 (eV 6) (eC (.int 3)) ixF)]))
  (sSeq (sIf (tOr' (tV (e2 (eC (.int 99)) (eTup [(eV 7), (eV 8)]) inF)) (tV (e2 (eTup [(eV 7), (eV 8)]) (eV 2) inF))) (sRet 1 (e2 (eV 4) (eC (.int 1)) addF)) sNil)
  (sSeq (sExpr (eMut "list" 1 [(e2 (eV 6) (eC (.int 1)) ixF)] appF))
  (sExpr (eMut "list" 2 [(eTup [(eV 7), (eV 8)])] appF)))))))))
  (sRet 1 (eIf (tV (e2 (eB [(eV 1)] lenF) (eC (.int 1)) gtF)) (eC (.int 0)) (eC (.int 2))))))
def n_is_name : List Str := ["value", "sign"]
def m_is_name : M Fl := (sSeq (sIf (tOr' (tNot' (tV (e1 (eV 0) (isiF (.ty "str"))))) (tNot' (tV (eCh (eC (.int 1)) (eB [(eV 0)] lenF) (eC (.int 8)) leF leF)))) (sRet 1 (eC (.bl false))) sNil)
  (sRet 1 (eB [(eLc (iOf anyK (eV 0)) [1] (tgN 1 1) tYes' (e2 (eV 1) (eC (.str "abcdefghijklmnopqrstuvwxyz")) inF))] allF)))
def n_integer_in : List Str := ["word", "figures", "number", "sign"]
def m_integer_in : M Fl := (sSeq (sAsg 1 1 (eIf (tV (e2 (eSl (eV 0) pNo (pAt (eC (.int 1)))) (eC (.str "-")) eqF)) (eSl (eV 0) (pAt (eC (.int 1))) pNo) (eV 0)))
  (sSeq (sIf (tOr' (tV (e2 (eV 1) (eC (.str "")) eqF)) (tNot' (tV (eB [(eLc (iOf anyK (eV 1)) [3] (tgN 1 3) tYes' (e2 (eV 3) (eC (.str "0123456789")) inF))] allF)))) (sRet 1 (eC .non)) sNil)
  (sSeq (sAsg 1 2 (eB [(eV 0)] intSF))
  (sRet 1 (eIf (tV (e2 (eB [(eV 2)] strF) (eV 0) eqF)) (eV 2) (eC .non))))))
def n_is_integer : List Str := ["value", "low", "high"]
def m_is_integer : M Fl := (sSeq (sIf (tOr' (tNot' (tV (e1 (eV 0) (isiF (.ty "int"))))) (tV (e1 (eV 0) (isiF (.ty "bool"))))) (sRet 3 (eC (.bl false))) sNil)
  (sRet 3 (eAnd (eOr (e1 (eV 1) isNF) (e2 (eV 1) (eV 0) leF)) (eOr (e1 (eV 2) isNF) (e2 (eV 0) (eV 2) leF)))))
def n_place_in : List Str := ["line", "words", "x", "y", "word"]
def m_place_in : M Fl := (sSeq (sAsg 1 1 (eM1 (eV 0) (eC (.str " ")) splitF))
  (sSeq (sIf (tOr' (tV (e2 (eB [(eV 1)] lenF) (eC (.int 4)) neF)) (tOr' (tV (e2 (e2 (eV 1) (eC (.int 0)) ixF) (eC (.str "place")) neF)) (tNot' (tV (eCall 1 2 m_is_name [(e2 (eV 1) (eC (.int 1)) ixF)]))))) (sRet 1 (eC .non)) sNil)
  (sSeq (sAsgT (tgA 2 [(tgN 1 2), (tgN 1 3)]) (eLc (iOf anyK (eSl (eV 1) (pAt (eC (.int 2))) pNo)) [4] (tgN 1 4) tYes' (eCall 1 4 m_integer_in [(eV 4)])))
  (sRet 1 (eIf (tAnd' (tV (eCallD 3 3 m_is_integer [(eV 2), (e1 (eC (.int 20)) negF), (eC (.int 20))] [])) (tV (eCallD 3 3 m_is_integer [(eV 3), (e1 (eC (.int 20)) negF), (eC (.int 20))] []))) (eTup [(e2 (eV 1) (eC (.int 1)) ixF), (eV 2), (eV 3)]) (eC .non))))))
def n_can_stand : List Str := ["places", "place", "one"]
def m_can_stand : M Fl := (sRet 2 (eB [(eLc (iOf anyK (eV 0)) [2] (tgN 2 2) tYes' (eAnd (e2 (e2 (eV 2) (eC (.int 0)) ixF) (e2 (eV 1) (eC (.int 0)) ixF) neF) (e2 (eSl (eV 2) (pAt (eC (.int 1))) pNo) (eSl (eV 1) (pAt (eC (.int 1))) pNo) neF)))] allF))
def n_taken : List Str := ["text", "places", "number", "line", "place"]
def m_taken : M Fl := (sSeq (sIf (tNot' (tV (e1 (eV 0) (isiF (.ty "str"))))) (sRaise (eC (.int 0)) "BadTown") sNil)
  (sSeq (sAsg 1 1 (eTup []))
  (sSeq (sFor (iEnK (eM1 (eV 0) (eC (.str "\n")) splitF) (eC (.int 1))) (tgA 2 [(tgN 1 2), (tgN 1 3)]) (sSeq (sAsg 1 4 (eCall 1 5 m_place_in [(eV 3)]))
  (sSeq (sIf (tOr' (tV (e1 (eV 4) isNF)) (tOr' (tV (e2 (eB [(eV 1)] lenF) (eC (.int 6)) eqF)) (tNot' (tV (eCall 2 3 m_can_stand [(eV 1), (eV 4)]))))) (sRaise (eV 2) "BadTown") sNil)
  (sAsg 1 1 (eTupA (eAs (eV 1) (eA [(eV 4)])))))))
  (sSeq (sIf (tV (e2 (eB [(eV 1)] lenF) (eC (.int 2)) ltF)) (sRaise (eC (.int 2)) "BadTown") sNil)
  (sRet 1 (eV 1))))))
def n_Town___init : List Str := ["self", "text"]
def ini_Town : Ini := (.set 0 (eCall 1 5 m_taken [(eV 1)])
  (.set 1 (eV 1)
  .nil))
def n_Town_text : List Str := ["self"]
def m_Town_text : M Fl := (sRet 1 (e1 (eV 0) (sloF "Town" 1)))
def n_law_is_judged : List Str := ["_law_text_here", "_law_number", "_law_caught", "_law_made"]
def m_law_is_judged : M Fl := (sSeq (sAsg 1 1 (eCall 1 10 m_law_wrong_line [(eV 0)]))
  (sSeq (sAsgT (tgA 2 [(tgN 1 2), (tgN 1 3)]) (eTold errs (eMk "Town" 2 2 ini_Town [(eV 0)] [])))
  (sSeq (sIf (tV (e2 (eV 1) (eC (.int 0)) eqF)) (sRet 1 (eAnd (e1 (eV 2) isNF) (e2 (ePrO "Town" 1 m_Town_text (eV 3)) (eV 0) eqF))) sNil)
  (sRet 1 (eAnd (e1 (eV 2) (isiF (.err "BadTown"))) (e2 (eB [(e1 (eV 2) valF)] reprF) (eB [(eV 1)] reprF) eqF))))))
def n_law_spoilt : List Str := ["_law_pot_here", "_law_rows", "_law_way", "_law_at", "_law_words", "_law_spot", "_law_more", "_law_some_here", "_law_new"]
def m_law_spoilt : M Fl := (sSeq (sPar 2 2 3 (eCall 2 5 m_law_take [(eV 0), (eC (.int 8))]) (eCall 2 5 m_law_take [(eV 0), (eB [(eV 1)] lenF)]))
  (sSeq (sAsg 2 4 (eM1 (e2 (eV 1) (eV 3) ixF) (eC (.str " ")) splitF))
  (sSeq (sAsg 2 5 (eCall 2 5 m_law_take [(eV 0), (eB [(eV 4)] lenF)]))
  (sSeq (sIf (tV (e2 (eV 2) (eC (.int 2)) ltF)) (sRet 2 (e2 (eLst [(e2 (eSl (eV 1) pNo (pAt (eV 3))) (eSl (eV 1) (pAt (e2 (eV 3) (eC (.int 1)) addF)) pNo) addF), (e2 (eSl (eV 1) pNo (pAt (e2 (eV 3) (eC (.int 1)) addF))) (eSl (eV 1) (pAt (eV 3)) pNo) addF)]) (eV 2) ixF)) sNil)
  (sSeq (sIf (tV (e2 (eV 2) (eC (.int 2)) eqF)) (sRet 2 (e2 (e2 (eSl (eV 1) pNo (pAt (eV 3))) (e1 (eSl (eV 1) (pAt (eV 3)) (pAt (e2 (eV 3) (eC (.int 2)) addF))) revF) addF) (eSl (eV 1) (pAt (e2 (eV 3) (eC (.int 2)) addF)) pNo) addF)) sNil)
  (sSeq (sIf (tV (e2 (eV 2) (eC (.int 3)) eqF)) (sSeq (sAsg 2 6 (eLst [(eC (.str "place am 7 -7")), (eC (.str "place zz 0 0")), (eC (.str "place a 20 20")), (eC (.str "")), (eC (.str "town am")), (eC (.str "place q 1 2 3"))]))
  (sRet 2 (e2 (e2 (eSl (eV 1) pNo (pAt (eV 3))) (eLst [(eCall 2 2 m_law_of [(eV 0), (eV 6)])]) addF) (eSl (eV 1) (pAt (eV 3)) pNo) addF))) sNil)
  (sSeq (sAsg 2 7 (eLst [(eC (.str "")), (eC (.str "a")), (eC (.str "0")), (eC (.str "-0")), (eC (.str "20")), (eC (.str "-20")), (eC (.str "21")), (eC (.str "-21")), (eC (.str "007")), (eC (.str "+3")), (eC (.str "3.0")), (eC (.str "Am")), (eC (.str "toolonger")), (eC (.str "place")), (eC (.str "x")), (eC (.str "--1"))]))
  (sSeq (sAsg 2 7 (e2 (eV 7) (eLst [(eC (.str "-")), (e2 (eV 4) (eC (.int 0)) ixF), (e2 (e2 (eV 4) (eV 5) ixF) (e2 (eV 4) (eV 5) ixF) addF), (e2 (e2 (eV 4) (eV 5) ixF) (eC (.str "0")) addF), (e2 (eC (.str "-")) (e2 (eV 4) (eV 5) ixF) addF), (eC (.str "b"))]) addF))
  (sSeq (sAsg 2 8 (eIf (tV (e2 (eV 2) (eC (.int 4)) eqF)) (eLst []) (eLst [(eCall 2 2 m_law_of [(eV 0), (eV 7)])])))
  (sSeq (sAsg 2 4 (e2 (e2 (eSl (eV 4) pNo (pAt (eV 5))) (eV 8) addF) (eSl (eV 4) (pAt (e2 (eV 5) (eB [(e2 (eV 2) (eC (.int 5)) neF)] intF) addF)) pNo) addF))
  (sRet 2 (e2 (e2 (eSl (eV 1) pNo (pAt (eV 3))) (eLst [(eM1 (eC (.str " ")) (eV 4) joinF)]) addF) (eSl (eV 1) (pAt (e2 (eV 3) (eC (.int 1)) addF)) pNo) addF))))))))))))
def n_law_odd : List Str := ["_law_pot_here", "_law_some_here"]
def m_law_odd : M Fl := (sSeq (sAsg 1 1 (eLst [(eC .non), (eC (.bl true)), (eC (.bl false)), (eC (.int 0)), (eC (.int 1)), (e1 (eC (.int 1)) negF), (eC (.int 2)), (e2 (eC (.int 10)) (eC (.int 8)) powF), (eC (.str "")), (eC (.str "a")), (eC (.str "near")), (eTup []), (eLst []), (eDisp []), (eTup [(eC (.int 0))]), (eTup [(eTup [])]), (eLst [(eC (.int 0))]), (eTup [(eC (.str "a")), (eC (.str "b"))]), (eC (.str "zz"))]))
  (sRet 1 (eCall 2 2 m_law_of [(eV 0), (e2 (eV 1) (eLst [(eTup [(eC (.str "near")), (eC (.str "a"))]), (eTup [(eC (.int 0)), (eC (.int 0)), (eC (.int 0))]), (eTup [(eC (.int 1)), (eC (.int 1)), (eC (.int 1))]), (eTup [(eC (.str "a"))]), (eDisp [((eC (.str "a")), (eC (.int 1)))]), (eC (.str "A")), (eTup [(eC (.bl true)), (eC (.int 0)), (eC (.int 1))]), (eLst [(eC (.str "a")), (eC (.str "b"))])]) addF)])))
def n_law_right : List Str := ["_law_pot_here", "_law_rows", "_law_lap", "_law_some_here", "_law_value", "_law_caught", "_law_due"]
def m_law_right : M Fl := (sSeq (sAsg 1 1 (eM1 (eCall 1 4 m_law_text [(eCall 4 7 m_law_town [(eV 0), (eC (.int 2)), (eC (.int 6)), (eCall 2 2 m_law_of [(eV 0), (eLst [(eC (.int 3)), (eC (.int 20))])])])]) (eC (.str "\n")) splitF))
  (sSeq (sIf (tNot' (tV (eCall 1 4 m_law_is_judged [(eM1 (eC (.str "\n")) (eV 1) joinF)]))) (sRet 1 (eC (.bl false))) sNil)
  (sSeq (sFor (iRng [(eC (.int 12))]) (tgN 1 2) (sSeq (sAsg 1 3 (eCall 2 9 m_law_spoilt [(eV 0), (eV 1)]))
  (sSeq (sIf (tAnd' (tV (e2 (eV 3) (eLst []) neF)) (tV (e2 (eCall 2 5 m_law_take [(eV 0), (eC (.int 3))]) (eC (.int 0)) eqF))) (sAsg 1 3 (eCall 2 9 m_law_spoilt [(eV 0), (eV 3)])) sNil)
  (sIf (tNot' (tV (eCall 1 4 m_law_is_judged [(eM1 (eC (.str "\n")) (eV 3) joinF)]))) (sRet 1 (eC (.bl false))) sNil))))
  (sSeq (sFor (iOf tupK (eTup [(eC .non), (eC (.int 0)), (eC (.bl true)), (eV 1), (eB [(eV 1)] tupleF), (eDisp []), (eCall 1 2 m_law_odd [(eV 0)])])) (tgN 1 4) (sSeq (sAsg 1 5 (e2 (eTold errs (eMk "Town" 2 2 ini_Town [(eV 4)] [])) (eC (.int 0)) ixF))
  (sSeq (sAsg 1 6 (eIf (tV (e1 (eV 4) (isiF (.ty "str")))) (eCall 1 10 m_law_wrong_line [(eV 4)]) (eC (.int 0))))
  (sIf (tOr' (tNot' (tV (e1 (eV 5) (isiF (.err "BadTown"))))) (tV (e2 (eB [(e1 (eV 5) valF)] reprF) (eB [(eV 6)] reprF) neF))) (sRet 1 (eC (.bl false))) sNil))))
  (sRet 1 (eAnd (eCall 1 4 m_law_is_judged [(eC (.str ""))]) (eAnd (eCall 1 4 m_law_is_judged [(e2 (eM1 (eC (.str "\n")) (eV 1) joinF) (eC (.str "\n")) addF)]) (eCall 1 4 m_law_is_judged [(e2 (eC (.str "\n")) (eM1 (eC (.str "\n")) (eV 1) joinF) addF)]))))))))
def n_law : List Str := ["_law_script", "_law_place", "_law_pot_here", "_law_lap"]
def m_law : M Fl := (sSeq (sFor (iOf anyK (eCall 2 2 m_law_cells [(eV 0), (eC (.int 4))])) (tgN 1 1) (sSeq (sAsg 1 2 (eCall 2 5 m_law_pot [(eV 0), (eV 1)]))
  (sIf (tNot' (tV (eB [(eLc (iRng [(eC (.int 2))]) [3] (tgN 1 3) tYes' (eCall 1 7 m_law_right [(eV 2)]))] allF))) (sRet 1 (eC (.bl false))) sNil)))
  (sRet 1 (eC (.bl true))))
section
variable {w : World} {K : PySem.W.Frag} {mg : Str → Option Value} {base : Heap} {tb : List (Addr × Str)}
theorem sc_law_cells : FnScope n_law_cells ["_law_script", "_law_limit"] (defScope (top 36)) := ⟨rfl, rfl, rfl, by decide +kernel, rfl, by decide +kernel, by decide +kernel⟩
theorem ok_law_cells (T : Tp prog K mg base errs tb fr) {f : Addr} {fd : FuncData} (F : FunD K "_law_cells" "_law_cells" (defArgs (top 36)) (defBody (top 36)) (defScope (top 36)) [] [] f fd)  :
    FnD prog w K mg base 2 f fd ["_law_script", "_law_limit"] (spM ⟨K, mg, errs, tb⟩ 2 2 m_law_cells) :=
  CalD.of T F sc_law_cells fun X W cdv A outer s H E hX B hp tk => by
    subst hX
    exact (dss_one (ds_ret (wLrg B (wMax B (da_cons de_int (da_cons (wMin B (da_cons (de_var 1) (da_cons (wLen B (da_cons (de_var 0) da_nil)) da_nil))) da_nil))))))
theorem sc_law_pot : FnScope n_law_pot ["_law_script", "_law_place"] (defScope (top 32)) := ⟨rfl, rfl, rfl, by decide +kernel, rfl, by decide +kernel, by decide +kernel⟩
theorem ok_law_pot (T : Tp prog K mg base errs tb fr) {f : Addr} {fd : FuncData} (F : FunD K "_law_pot" "_law_pot" (defArgs (top 32)) (defBody (top 32)) (defScope (top 32)) [] [] f fd)  :
    FnD prog w K mg base 2 f fd ["_law_script", "_law_place"] (spM ⟨K, mg, errs, tb⟩ 2 5 m_law_pot) :=
  CalD.of T F sc_law_pot fun X W cdv A outer s H E hX B hp tk => by
    subst hX
    exact (dss_cons (ds_set (i := 2) B.nd rfl (by first | exact Or.inl rfl | exact Or.inr rfl) (de_if (xLt B (de_var 1) (wLen B (da_cons (de_var 0) da_nil))) (wIx B (de_var 0) (de_var 1)) (wAdd B (wMul B de_int (de_var 1)) de_int)))
  (dss_cons (ds_set (i := 3) B.nd rfl (by first | exact Or.inl rfl | exact Or.inr rfl) (wMul B (wMod B (wInt B (da_cons (wAbs B (da_cons (de_var 2) da_nil)) da_nil)) (wPow B (wPow B de_int de_int) de_int)) (wInt B (da_cons (wGe B (wAbs B (da_cons (de_var 2) da_nil)) (wPow B de_int de_int)) da_nil))))
  (dss_cons (ds_set (i := 4) B.nd rfl (by first | exact Or.inl rfl | exact Or.inr rfl) (wMod B (wInt B (da_cons (de_var 2) da_nil)) de_int))
  (dss_one (ds_ret (de_lst (da_cons (de_var 3) (da_cons (wMod B (wInt B (da_cons (wAdd B (wAdd B (wMul B (de_var 4) de_int) (wMul B (wMul B de_int (de_var 1)) (de_var 1))) de_int) da_nil)) de_int) (da_cons de_int da_nil)))))))))
theorem sc_law_take : FnScope n_law_take ["_law_pot_here", "_law_upto"] (defScope (top 33)) := ⟨rfl, rfl, rfl, by decide +kernel, rfl, by decide +kernel, by decide +kernel⟩
theorem ok_law_take (T : Tp prog K mg base errs tb fr) {f : Addr} {fd : FuncData} (F : FunD K "_law_take" "_law_take" (defArgs (top 33)) (defBody (top 33)) (defScope (top 33)) [] [] f fd)  :
    FnD prog w K mg base 2 f fd ["_law_pot_here", "_law_upto"] (spM ⟨K, mg, errs, tb⟩ 2 5 m_law_take) :=
  CalD.of T F sc_law_take fun X W cdv A outer s H E hX B hp tk => by
    subst hX
    exact (dss_cons (ds_if (xGt B (wIx B (de_var 0) de_int) de_int) (dss_cons (ds_set (i := 2) B.nd rfl (by first | exact Or.inl rfl | exact Or.inr rfl) (wMod B (wInt B (da_cons (wIx B (de_var 0) de_int) da_nil)) (de_var 1)))
  (dss_cons (ds_setI set_list setD (wDiv B (wIx B (de_var 0) de_int) (de_var 1)) (de_var 0) de_int)
  (dss_one (ds_ret (de_var 2))))) dss_nil)
  (dss_cons (ds_setI set_list setD (wAdd B (wIx B (de_var 0) de_int) de_int) (de_var 0) de_int)
  (dss_cons (ds_set (i := 3) B.nd rfl (by first | exact Or.inl rfl | exact Or.inr rfl) (wIx B (de_lst (da_cons de_int (da_cons de_int (da_cons de_int (da_cons de_int (da_cons de_int da_nil)))))) (wMod B (wInt B (da_cons (wIx B (de_var 0) de_int) da_nil)) de_int)))
  (dss_cons (ds_set (i := 4) B.nd rfl (by first | exact Or.inl rfl | exact Or.inr rfl) (wMod B (wInt B (da_cons (wPow B (wInt B (da_cons (wAdd B (wAdd B (wIx B (de_var 0) de_int) (wMul B (wMul B de_int (wIx B (de_var 0) de_int)) (wIx B (de_var 0) de_int))) de_int) da_nil)) de_int) da_nil)) (de_var 3)))
  (dss_cons (ds_set (i := 4) B.nd rfl (by first | exact Or.inl rfl | exact Or.inr rfl) (wMod B (wInt B (da_cons (wMul B (de_var 4) (wAdd B (wMod B (wInt B (da_cons (de_var 4) da_nil)) de_int) (wMul B de_int (wIx B (de_var 0) de_int)))) da_nil)) de_int))
  (dss_one (ds_ret (wMod B (wInt B (da_cons (wDiv B (de_var 4) de_int) da_nil)) (de_var 1)))))))))
theorem sc_law_of : FnScope n_law_of ["_law_pot_here", "_law_some_here"] (defScope (top 34)) := ⟨rfl, rfl, rfl, by decide +kernel, rfl, by decide +kernel, by decide +kernel⟩
theorem ok_law_of (T : Tp prog K mg base errs tb fr) {f : Addr} {fd : FuncData} (F : FunD K "_law_of" "_law_of" (defArgs (top 34)) (defBody (top 34)) (defScope (top 34)) [] [] f fd) (c_law_take : Cal prog w K mg base 2 ⟨K, mg, errs, tb⟩ "_law_take" 2 5 m_law_take) :
    FnD prog w K mg base 3 f fd ["_law_pot_here", "_law_some_here"] (spM ⟨K, mg, errs, tb⟩ 2 2 m_law_of) :=
  CalD.of T F sc_law_of fun X W cdv A outer s H E hX B hp tk => by
    subst hX
    exact (dss_one (ds_ret (wIx B (de_var 1) (wCall B (c_law_take.mono (by decide)) (da_cons (de_var 0) (da_cons (wLen B (da_cons (de_var 1) da_nil)) da_nil))))))
theorem sc_law_some : FnScope n_law_some ["_law_pot_here", "_law_pool", "_law_many"] (defScope (top 35)) := ⟨rfl, rfl, rfl, by decide +kernel, rfl, by decide +kernel, by decide +kernel⟩
theorem ok_law_some (T : Tp prog K mg base errs tb fr) {f : Addr} {fd : FuncData} (F : FunD K "_law_some" "_law_some" (defArgs (top 35)) (defBody (top 35)) (defScope (top 35)) [] [] f fd) (c_law_take : Cal prog w K mg base 2 ⟨K, mg, errs, tb⟩ "_law_take" 2 5 m_law_take) :
    FnD prog w K mg base 3 f fd ["_law_pot_here", "_law_pool", "_law_many"] (spM ⟨K, mg, errs, tb⟩ 3 6 m_law_some) :=
  CalD.of T F sc_law_some fun X W cdv A outer s H E hX B hp tk => by
    subst hX
    exact (dss_cons (ds_par (i := 3) (j := 4) B.hc B.nd rfl rfl (by decide) rfl rfl (wList B (da_cons (de_var 1) da_nil)) (de_lst da_nil) rfl)
  (dss_cons (ds_for hp B.hc (di_range (by rfl) (B.free _ (by decide)) (da_cons (de_var 2) da_nil)) (dg_name (i := 5) B.nd rfl (by first | exact Or.inl rfl | exact Or.inr rfl)) (dss_one (ds_expr (wApp B (de_var 4) (da_cons (wPopAt B (de_var 3) (da_cons (wCall B (c_law_take.mono (by decide)) (da_cons (de_var 0) (da_cons (wLen B (da_cons (de_var 3) da_nil)) da_nil))) da_nil)) da_nil)))))
  (dss_one (ds_ret (de_var 4)))))
theorem sc_law_names : FnScope n_law_names ["_law_pot_here", "_law_many"] (defScope (top 39)) := ⟨rfl, rfl, rfl, by decide +kernel, rfl, by decide +kernel, by decide +kernel⟩
theorem ok_law_names (T : Tp prog K mg base errs tb fr) {f : Addr} {fd : FuncData} (F : FunD K "_law_names" "_law_names" (defArgs (top 39)) (defBody (top 39)) (defScope (top 39)) [] [] f fd) (c_law_some : Cal prog w K mg base 3 ⟨K, mg, errs, tb⟩ "_law_some" 3 6 m_law_some) :
    FnD prog w K mg base 4 f fd ["_law_pot_here", "_law_many"] (spM ⟨K, mg, errs, tb⟩ 2 3 m_law_names) :=
  CalD.of T F sc_law_names fun X W cdv A outer s H E hX B hp tk => by
    subst hX
    exact (dss_cons (ds_set (i := 2) B.nd rfl (by first | exact Or.inl rfl | exact Or.inr rfl) (de_lst (da_cons de_str (da_cons de_str (da_cons de_str (da_cons de_str (da_cons de_str (da_cons de_str (da_cons de_str (da_cons de_str (da_cons de_str (da_cons de_str (da_cons de_str (da_cons de_str (da_cons de_str (da_cons de_str da_nil))))))))))))))))
  (dss_one (ds_ret (wCall B (c_law_some.mono (by decide)) (da_cons (de_var 0) (da_cons (de_var 2) (da_cons (de_var 1) da_nil)))))))
theorem sc_law_points : FnScope n_law_points ["_law_pot_here", "_law_many", "_law_far"] (defScope (top 40)) := ⟨rfl, rfl, rfl, by decide +kernel, rfl, by decide +kernel, by decide +kernel⟩
theorem ok_law_points (T : Tp prog K mg base errs tb fr) {f : Addr} {fd : FuncData} (F : FunD K "_law_points" "_law_points" (defArgs (top 40)) (defBody (top 40)) (defScope (top 40)) [] [] f fd) (c_law_take : Cal prog w K mg base 2 ⟨K, mg, errs, tb⟩ "_law_take" 2 5 m_law_take) (c_law_of : Cal prog w K mg base 3 ⟨K, mg, errs, tb⟩ "_law_of" 2 2 m_law_of) :
    FnD prog w K mg base 4 f fd ["_law_pot_here", "_law_many", "_law_far"] (spM ⟨K, mg, errs, tb⟩ 3 11 m_law_points) :=
  CalD.of T F sc_law_points fun X W cdv A outer s H E hX B hp tk => by
    subst hX
    exact (dss_cons (ds_two (i := 3) (j := 4) B.ct.k B.hc B.nd rfl rfl (by first | exact Or.inl rfl | exact Or.inr rfl) (by first | exact Or.inl rfl | exact Or.inr rfl) (by first | exact Or.inl rfl | exact Or.inr rfl) (by first | exact Or.inl rfl | exact Or.inr rfl) (wCall B (c_law_take.mono (by decide)) (da_cons (de_var 0) (da_cons de_int da_nil))) (de_lst da_nil))
  (dss_cons (ds_while fuel hp (xLt B (wLen B (da_cons (de_var 4) da_nil)) (de_var 1)) (dss_cons (ds_par (i := 5) (j := 6) B.hc B.nd rfl rfl (by decide) rfl rfl (wSub B (wCall B (c_law_take.mono (by decide)) (da_cons (de_var 0) (da_cons (wAdd B (wMul B de_int (de_var 2)) de_int) da_nil))) (de_var 2)) (wSub B (wCall B (c_law_take.mono (by decide)) (da_cons (de_var 0) (da_cons (wAdd B (wMul B de_int (de_var 2)) de_int) da_nil))) (de_var 2)) rfl)
  (dss_cons (ds_if (xEq B (de_var 3) de_int) (dss_one (ds_par (i := 5) (j := 6) B.hc B.nd rfl rfl (by decide) rfl rfl (wIx B (de_lst (da_cons (wNeg B (de_var 2)) (da_cons de_int (da_cons (de_var 2) (da_cons de_int da_nil))))) (wMod B (wInt B (da_cons (de_var 5) da_nil)) de_int)) (wIx B (de_lst (da_cons (wNeg B (de_var 2)) (da_cons de_int (da_cons (de_var 2) (da_cons de_int da_nil))))) (wMod B (wInt B (da_cons (de_var 6) da_nil)) de_int)) rfl)) dss_nil)
  (dss_cons (ds_if (PWd.pt (dw_and (xEq B (de_var 3) de_int) (dw_and1 (xNe B (de_var 4) (de_lst da_nil))))) (dss_cons (ds_set (i := 7) B.nd rfl (by first | exact Or.inl rfl | exact Or.inr rfl) (wCall B (c_law_of.mono (by decide)) (da_cons (de_var 0) (da_cons (de_var 4) da_nil))))
  (dss_cons (ds_set (i := 8) B.nd rfl (by first | exact Or.inl rfl | exact Or.inr rfl) (de_lst (da_cons (de_tup (da_cons (wIx B (de_var 7) de_int) (da_cons (wIx B (de_var 7) de_int) da_nil))) (da_cons (de_tup (da_cons (wNeg B (wIx B (de_var 7) de_int)) (da_cons (wIx B (de_var 7) de_int) da_nil))) (da_cons (de_tup (da_cons (wIx B (de_var 7) de_int) (da_cons (wNeg B (wIx B (de_var 7) de_int)) da_nil))) (da_cons (de_tup (da_cons (wNeg B (wIx B (de_var 7) de_int)) (da_cons (wNeg B (wIx B (de_var 7) de_int)) da_nil))) (da_cons (de_tup (da_cons (de_var 5) (da_cons (wIx B (de_var 7) de_int) da_nil))) da_nil)))))))
  (dss_one (ds_asg (wCall B (c_law_of.mono (by decide)) (da_cons (de_var 0) (da_cons (de_var 8) da_nil))) (dg_any B.ct.k B.hc (dgs_cons (dg_name (i := 5) B.nd rfl (by first | exact Or.inl rfl | exact Or.inr rfl)) (dgs_cons (dg_name (i := 6) B.nd rfl (by first | exact Or.inl rfl | exact Or.inr rfl)) dgs_nil))))))) dss_nil)
  (dss_cons (ds_set (i := 9) B.nd rfl (by first | exact Or.inl rfl | exact Or.inr rfl) (de_lst (da_cons (de_tup (da_cons (de_var 5) (da_cons (de_var 6) da_nil))) (da_cons (de_tup (da_cons (wDiv B (wInt B (da_cons (de_var 5) da_nil)) de_int) (da_cons (de_var 6) da_nil))) (da_cons (de_tup (da_cons (de_var 5) (da_cons (wDiv B (wInt B (da_cons (de_var 6) da_nil)) de_int) da_nil))) (da_cons (de_tup (da_cons (wSub B (wLen B (da_cons (de_var 4) da_nil)) (de_var 2)) (da_cons (de_var 2) da_nil))) (da_cons (de_tup (da_cons (de_var 2) (da_cons (wSub B (wLen B (da_cons (de_var 4) da_nil)) (de_var 2)) da_nil))) da_nil)))))))
  (dss_one (ds_expr (wApp B (de_var 4) (da_cons (wIx B (de_lc (own := [("_law_spot", 10)]) B.hc B.nd (by decide : ∀ i ∈ (([("_law_spot", 10)] : List (Str × Nat)).map (·.2)), 3 ≤ i) (by decide) (di_any B.ct.k (wAdd B (de_var 9) (de_lst (da_cons (de_tup (da_cons (wNeg B (de_var 2)) (da_cons (wNeg B (de_var 2)) da_nil))) (da_cons (de_tup (da_cons (de_var 2) (da_cons (de_var 2) da_nil))) (da_cons (de_tup (da_cons de_int (da_cons de_int da_nil))) (da_cons (de_tup (da_cons de_int (da_cons de_int da_nil))) da_nil))))))) (blkOk_by (own := [("_law_spot", 10)]) (N := n_law_points) (sc := defScope (top 40)) (by decide +kernel)) (fun _ _ _ _ _ => (dg_name (i := 10) B.blk.nd rfl (by first | exact Or.inl rfl | exact Or.inr rfl))) (fun _ _ _ _ _ => (dts_one (xNotIn B.blk (de_var 10) (de_var 4)))) (fun _ _ _ _ _ => (de_var 10))) de_int) da_nil)))))))))
  (dss_one (ds_ret (de_var 4)))))
theorem sc_law_town : FnScope n_law_town ["_law_pot_here", "_law_fewest", "_law_most", "_law_far"] (defScope (top 41)) := ⟨rfl, rfl, rfl, by decide +kernel, rfl, by decide +kernel, by decide +kernel⟩
theorem ok_law_town (T : Tp prog K mg base errs tb fr) {f : Addr} {fd : FuncData} (F : FunD K "_law_town" "_law_town" (defArgs (top 41)) (defBody (top 41)) (defScope (top 41)) [] [] f fd) (c_law_take : Cal prog w K mg base 2 ⟨K, mg, errs, tb⟩ "_law_take" 2 5 m_law_take) (c_law_names : Cal prog w K mg base 4 ⟨K, mg, errs, tb⟩ "_law_names" 2 3 m_law_names) (c_law_points : Cal prog w K mg base 4 ⟨K, mg, errs, tb⟩ "_law_points" 3 11 m_law_points) :
    FnD prog w K mg base 5 f fd ["_law_pot_here", "_law_fewest", "_law_most", "_law_far"] (spM ⟨K, mg, errs, tb⟩ 4 7 m_law_town) :=
  CalD.of T F sc_law_town fun X W cdv A outer s H E hX B hp tk => by
    subst hX
    exact (dss_cons (ds_set (i := 4) B.nd rfl (by first | exact Or.inl rfl | exact Or.inr rfl) (wAdd B (de_var 1) (wCall B (c_law_take.mono (by decide)) (da_cons (de_var 0) (da_cons (wAdd B (wSub B (de_var 2) (de_var 1)) de_int) da_nil)))))
  (dss_one (ds_ret (de_lc (own := [("_law_name", 5), ("_law_spot", 6)]) B.hc B.nd (by decide : ∀ i ∈ (([("_law_name", 5), ("_law_spot", 6)] : List (Str × Nat)).map (·.2)), 4 ≤ i) (by decide) (di_zip B.ct.k (by rfl) (B.free _ (by decide)) (da_cons (wCall B (c_law_names.mono (by decide)) (da_cons (de_var 0) (da_cons (de_var 4) da_nil))) (da_cons (wCall B (c_law_points.mono (by decide)) (da_cons (de_var 0) (da_cons (de_var 4) (da_cons (de_var 3) da_nil)))) da_nil))) (blkOk_by (own := [("_law_name", 5), ("_law_spot", 6)]) (N := n_law_town) (sc := defScope (top 41)) (by decide +kernel)) (fun _ _ _ _ _ => (dg_any B.blk.ct.k B.blk.hc (dgs_cons (dg_name (i := 5) B.blk.nd rfl (by first | exact Or.inl rfl | exact Or.inr rfl)) (dgs_cons (dg_name (i := 6) B.blk.nd rfl (by first | exact Or.inl rfl | exact Or.inr rfl)) dgs_nil)))) (fun _ _ _ _ _ => dts_nil) (fun _ _ _ _ _ => (wAdd B.blk (de_tup (da_cons (de_var 5) da_nil)) (de_var 6)))))))
theorem sc_law_text : FnScope n_law_text ["_law_town_here"] (defScope (top 42)) := ⟨rfl, rfl, rfl, by decide +kernel, rfl, by decide +kernel, by decide +kernel⟩
theorem ok_law_text (T : Tp prog K mg base errs tb fr) {f : Addr} {fd : FuncData} (F : FunD K "_law_text" "_law_text" (defArgs (top 42)) (defBody (top 42)) (defScope (top 42)) [] [] f fd)  :
    FnD prog w K mg base 2 f fd ["_law_town_here"] (spM ⟨K, mg, errs, tb⟩ 1 4 m_law_text) :=
  CalD.of T F sc_law_text fun X W cdv A outer s H E hX B hp tk => by
    subst hX
    exact (dss_one (ds_ret (wJoin B de_str (de_lc (own := [("_law_name", 1), ("_law_x", 2), ("_law_y", 3)]) B.hc B.nd (by decide : ∀ i ∈ (([("_law_name", 1), ("_law_x", 2), ("_law_y", 3)] : List (Str × Nat)).map (·.2)), 1 ≤ i) (by decide) (di_any B.ct.k (de_var 0)) (blkOk_by (own := [("_law_name", 1), ("_law_x", 2), ("_law_y", 3)]) (N := n_law_text) (sc := defScope (top 42)) (by decide +kernel)) (fun _ _ _ _ _ => (dg_any B.blk.ct.k B.blk.hc (dgs_cons (dg_name (i := 1) B.blk.nd rfl (by first | exact Or.inl rfl | exact Or.inr rfl)) (dgs_cons (dg_name (i := 2) B.blk.nd rfl (by first | exact Or.inl rfl | exact Or.inr rfl)) (dgs_cons (dg_name (i := 3) B.blk.nd rfl (by first | exact Or.inl rfl | exact Or.inr rfl)) dgs_nil))))) (fun _ _ _ _ _ => dts_nil) (fun _ _ _ _ _ => (wAdd B.blk (wAdd B.blk (wAdd B.blk (wAdd B.blk (wAdd B.blk de_str (de_var 1)) de_str) (wStr B.blk (da_cons (de_var 2) da_nil))) de_str) (wStr B.blk (da_cons (de_var 3) da_nil))))))))
theorem sc_law_number_in : FnScope n_law_number_in ["_law_word"] (defScope (top 43)) := ⟨rfl, rfl, rfl, by decide +kernel, rfl, by decide +kernel, by decide +kernel⟩
theorem ok_law_number_in (T : Tp prog K mg base errs tb fr) {f : Addr} {fd : FuncData} (F : FunD K "_law_number_in" "_law_number_in" (defArgs (top 43)) (defBody (top 43)) (defScope (top 43)) [] [] f fd)  :
    FnD prog w K mg base 2 f fd ["_law_word"] (spM ⟨K, mg, errs, tb⟩ 1 3 m_law_number_in) :=
  CalD.of T F sc_law_number_in fun X W cdv A outer s H E hX B hp tk => by
    subst hX
    exact (dss_cons (ds_setLc (i := 1) (own := [("_law_number", 2)]) B.hc B.nd rfl rfl (sw_true rfl rfl rfl (by decide +kernel)) (by decide : ∀ i ∈ (([("_law_number", 2)] : List (Str × Nat)).map (·.2)), 1 ≤ i) (by decide) (di_range2 (by rfl) (B.free _ (by decide)) (da_cons (wNeg B de_int) (da_cons de_int da_nil))) (blkOk_by (own := [("_law_number", 2)]) (N := n_law_number_in) (sc := defScope (top 43)) (by decide +kernel)) (fun _ _ _ _ _ => (dg_name (i := 2) B.blk.nd rfl (by first | exact Or.inl rfl | exact Or.inr rfl))) (fun _ _ _ _ _ => dts_nil) (fun _ _ _ _ _ => (wStr B.blk (da_cons (de_var 2) da_nil))))
  (dss_one (ds_ret (de_if (xIn B (de_var 0) (de_var 1)) (wSub B (wIndex B (de_var 1) (de_var 0)) de_int) de_int))))
theorem sc_law_wrong_line : FnScope n_law_wrong_line ["_law_text_here"] (defScope (top 44)) := ⟨rfl, rfl, rfl, by decide +kernel, rfl, by decide +kernel, by decide +kernel⟩
theorem ok_law_wrong_line (T : Tp prog K mg base errs tb fr) {f : Addr} {fd : FuncData} (F : FunD K "_law_wrong_line" "_law_wrong_line" (defArgs (top 44)) (defBody (top 44)) (defScope (top 44)) [] [] f fd) (c_law_number_in : Cal prog w K mg base 2 ⟨K, mg, errs, tb⟩ "_law_number_in" 1 3 m_law_number_in) :
    FnD prog w K mg base 3 f fd ["_law_text_here"] (spM ⟨K, mg, errs, tb⟩ 1 10 m_law_wrong_line) :=
  CalD.of T F sc_law_wrong_line fun X W cdv A outer s H E hX B hp tk => by
    subst hX
    exact (dss_cons (ds_par3 (i := 1) (j := 2) (l := 3) B.hc B.nd rfl rfl rfl (by decide) (by decide) (by decide) rfl rfl rfl (de_lst da_nil) (de_lst da_nil) (wSplit B (de_var 0) de_str) rfl)
  (dss_cons (ds_for hp B.hc (di_enum B.ct.k (by rfl) (B.free _ (by decide)) (da_cons (de_var 3) da_nil)) (dg_any B.ct.k B.hc (dgs_cons (dg_name (i := 4) B.nd rfl (by first | exact Or.inl rfl | exact Or.inr rfl)) (dgs_cons (dg_name (i := 5) B.nd rfl (by first | exact Or.inl rfl | exact Or.inr rfl)) dgs_nil))) (dss_cons (ds_set (i := 6) B.nd rfl (by first | exact Or.inl rfl | exact Or.inr rfl) (wSplit B (de_var 5) de_str))
  (dss_cons (ds_if (PWd.pt (dw_or (xNe B (wLen B (da_cons (de_var 6) da_nil)) de_int) (dw_or (xNe B (wIx B (de_var 6) de_int) de_str) (dw_or (dt_not (xLeLe B de_int (wLen B (da_cons (wIx B (de_var 6) de_int) da_nil)) de_int)) (dw_or1 (xGt B (wLen B (da_cons (de_var 1) da_nil)) de_int)))))) (dss_one (ds_ret (wAdd B (de_var 4) de_int))) dss_nil)
  (dss_cons (ds_if (PWd.pt (dw_or (dt_not (pt_valD (wAll B (da_cons (de_lc (own := [("_law_sign", 9)]) B.hc B.nd (by decide : ∀ i ∈ (([("_law_sign", 9)] : List (Str × Nat)).map (·.2)), 1 ≤ i) (by decide) (di_any B.ct.k (wIx B (de_var 6) de_int)) (blkOk_by (own := [("_law_sign", 9)]) (N := n_law_wrong_line) (sc := defScope (top 44)) (by decide +kernel)) (fun _ _ _ _ _ => (dg_name (i := 9) B.blk.nd rfl (by first | exact Or.inl rfl | exact Or.inr rfl))) (fun _ _ _ _ _ => dts_nil) (fun _ _ _ _ _ => (wIn B.blk (de_var 9) de_str))) da_nil)))) (dw_or1 (xIn B (wIx B (de_var 6) de_int) (de_var 1))))) (dss_one (ds_ret (wAdd B (de_var 4) de_int))) dss_nil)
  (dss_cons (ds_par (i := 7) (j := 8) B.hc B.nd rfl rfl (by decide) rfl rfl (wCall B (c_law_number_in.mono (by decide)) (da_cons (wIx B (de_var 6) de_int) da_nil)) (wCall B (c_law_number_in.mono (by decide)) (da_cons (wIx B (de_var 6) de_int) da_nil)) rfl)
  (dss_cons (ds_if (PWd.pt (dw_or (xIn B de_int (de_tup (da_cons (de_var 7) (da_cons (de_var 8) da_nil)))) (dw_or1 (xIn B (de_tup (da_cons (de_var 7) (da_cons (de_var 8) da_nil))) (de_var 2))))) (dss_one (ds_ret (wAdd B (de_var 4) de_int))) dss_nil)
  (dss_cons (ds_expr (wApp B (de_var 1) (da_cons (wIx B (de_var 6) de_int) da_nil)))
  (dss_one (ds_expr (wApp B (de_var 2) (da_cons (de_tup (da_cons (de_var 7) (da_cons (de_var 8) da_nil))) da_nil)))))))))))
  (dss_one (ds_ret (de_if (xGt B (wLen B (da_cons (de_var 1) da_nil)) de_int) de_int de_int)))))
theorem sc_is_name : FnScope n_is_name ["value"] (defScope (top 17)) := ⟨rfl, rfl, rfl, by decide +kernel, rfl, by decide +kernel, by decide +kernel⟩
theorem ok_is_name (T : Tp prog K mg base errs tb fr) {f : Addr} {fd : FuncData} (F : FunD K "is_name" "is_name" (defArgs (top 17)) (defBody (top 17)) (defScope (top 17)) [] [] f fd) (hk : Kn mg cons) :
    FnD prog w K mg base 2 f fd ["value"] (spM ⟨K, mg, errs, tb⟩ 1 2 m_is_name) :=
  CalD.of T F sc_is_name fun X W cdv A outer s H E hX B hp tk => by
    subst hX
    exact (dss_cons (ds_if (PWd.pt (dw_or (dt_not (pt_valD (wIsT B (de_var 0) bo_str))) (dw_or1 (dt_not (xLeLe B de_int (wLen B (da_cons (de_var 0) da_nil)) (wCon (.int 8) rfl (hk 0 _ _ rfl))))))) (dss_one (ds_ret de_bl)) dss_nil)
  (dss_one (ds_ret (wAll B (da_cons (de_lc (own := [("sign", 1)]) B.hc B.nd (by decide : ∀ i ∈ (([("sign", 1)] : List (Str × Nat)).map (·.2)), 1 ≤ i) (by decide) (di_any B.ct.k (de_var 0)) (blkOk_by (own := [("sign", 1)]) (N := n_is_name) (sc := defScope (top 17)) (by decide +kernel)) (fun _ _ _ _ _ => (dg_name (i := 1) B.blk.nd rfl (by first | exact Or.inl rfl | exact Or.inr rfl))) (fun _ _ _ _ _ => dts_nil) (fun _ _ _ _ _ => (wIn B.blk (de_var 1) (wCon (.str "abcdefghijklmnopqrstuvwxyz") rfl (hk 1 _ _ rfl))))) da_nil)))))
theorem sc_integer_in : FnScope n_integer_in ["word"] (defScope (top 19)) := ⟨rfl, rfl, rfl, by decide +kernel, rfl, by decide +kernel, by decide +kernel⟩
theorem ok_integer_in (T : Tp prog K mg base errs tb fr) {f : Addr} {fd : FuncData} (F : FunD K "integer_in" "integer_in" (defArgs (top 19)) (defBody (top 19)) (defScope (top 19)) [] [] f fd) (hk : Kn mg cons) :
    FnD prog w K mg base 2 f fd ["word"] (spM ⟨K, mg, errs, tb⟩ 1 4 m_integer_in) :=
  CalD.of T F sc_integer_in fun X W cdv A outer s H E hX B hp tk => by
    subst hX
    exact (dss_cons (ds_set (i := 1) B.nd rfl (by first | exact Or.inl rfl | exact Or.inr rfl) (de_if (xEq B (wSl B (de_var 0) do_no (do_at de_int)) (wCon (.str "-") rfl (hk 2 _ _ rfl))) (wSl B (de_var 0) (do_at de_int) do_no) (de_var 0)))
  (dss_cons (ds_if (PWd.pt (dw_or (xEq B (de_var 1) de_str) (dw_or1 (dt_not (pt_valD (wAll B (da_cons (de_lc (own := [("sign", 3)]) B.hc B.nd (by decide : ∀ i ∈ (([("sign", 3)] : List (Str × Nat)).map (·.2)), 1 ≤ i) (by decide) (di_any B.ct.k (de_var 1)) (blkOk_by (own := [("sign", 3)]) (N := n_integer_in) (sc := defScope (top 19)) (by decide +kernel)) (fun _ _ _ _ _ => (dg_name (i := 3) B.blk.nd rfl (by first | exact Or.inl rfl | exact Or.inr rfl))) (fun _ _ _ _ _ => dts_nil) (fun _ _ _ _ _ => (wIn B.blk (de_var 3) (wCon (.str "0123456789") rfl (hk 3 _ _ rfl))))) da_nil))))))) (dss_one (ds_ret de_non)) dss_nil)
  (dss_cons (ds_set (i := 2) B.nd rfl (by first | exact Or.inl rfl | exact Or.inr rfl) (wIntS B (da_cons (de_var 0) da_nil)))
  (dss_one (ds_ret (de_if (xEq B (wStr B (da_cons (de_var 2) da_nil)) (de_var 0)) (de_var 2) de_non))))))
theorem sc_is_integer : FnScope n_is_integer ["value", "low", "high"] (defScope (top 15)) := ⟨rfl, rfl, rfl, by decide +kernel, rfl, by decide +kernel, by decide +kernel⟩
theorem ok_is_integer (T : Tp prog K mg base errs tb fr) {f : Addr} {fd : FuncData} (F : FunD K "is_integer" "is_integer" (defArgs (top 15)) (defBody (top 15)) (defScope (top 15)) [vOf .non, vOf .non] [] f fd)  :
    FnD prog w K mg base 2 f fd ["value", "low", "high"] (spM ⟨K, mg, errs, tb⟩ 3 3 m_is_integer) :=
  CalD.of T F sc_is_integer fun X W cdv A outer s H E hX B hp tk => by
    subst hX
    exact (dss_cons (ds_if (PWd.pt (dw_or (dt_not (pt_valD (wIsT B (de_var 0) bo_int))) (dw_or1 (pt_valD (wIsT B (de_var 0) bo_bool))))) (dss_one (ds_ret de_bl)) dss_nil)
  (dss_one (ds_ret (de_and (de_or (de_isN (de_var 1)) (de_one (wLe B (de_var 1) (de_var 0)))) (de_one (de_or (de_isN (de_var 2)) (de_one (wLe B (de_var 0) (de_var 2)))))))))
theorem sc_place_in : FnScope n_place_in ["line"] (defScope (top 26)) := ⟨rfl, rfl, rfl, by decide +kernel, rfl, by decide +kernel, by decide +kernel⟩
theorem ok_place_in (T : Tp prog K mg base errs tb fr) {f : Addr} {fd : FuncData} (F : FunD K "place_in" "place_in" (defArgs (top 26)) (defBody (top 26)) (defScope (top 26)) [] [] f fd) (hk : Kn mg cons) (c_is_name : Cal prog w K mg base 2 ⟨K, mg, errs, tb⟩ "is_name" 1 2 m_is_name) (c_integer_in : Cal prog w K mg base 2 ⟨K, mg, errs, tb⟩ "integer_in" 1 4 m_integer_in) (c_is_integer_3 : CalD prog w K mg base 2 ⟨K, mg, errs, tb⟩ "is_integer" 3 3 m_is_integer []) :
    FnD prog w K mg base 3 f fd ["line"] (spM ⟨K, mg, errs, tb⟩ 1 5 m_place_in) :=
  CalD.of T F sc_place_in fun X W cdv A outer s H E hX B hp tk => by
    subst hX
    exact (dss_cons (ds_set (i := 1) B.nd rfl (by first | exact Or.inl rfl | exact Or.inr rfl) (wSplit B (de_var 0) (wCon (.str " ") rfl (hk 4 _ _ rfl))))
  (dss_cons (ds_if (PWd.pt (dw_or (xNe B (wLen B (da_cons (de_var 1) da_nil)) (wCon (.int 4) rfl (hk 5 _ _ rfl))) (dw_or (xNe B (wIx B (de_var 1) de_int) (wCon (.str "place") rfl (hk 6 _ _ rfl))) (dw_or1 (dt_not (pt_valD (wCall B (c_is_name.mono (by decide)) (da_cons (wIx B (de_var 1) de_int) da_nil)))))))) (dss_one (ds_ret de_non)) dss_nil)
  (dss_cons (ds_asg (de_lc (own := [("word", 4)]) B.hc B.nd (by decide : ∀ i ∈ (([("word", 4)] : List (Str × Nat)).map (·.2)), 1 ≤ i) (by decide) (di_any B.ct.k (wSl B (de_var 1) (do_at de_int) do_no)) (blkOk_by (own := [("word", 4)]) (N := n_place_in) (sc := defScope (top 26)) (by decide +kernel)) (fun _ _ _ _ _ => (dg_name (i := 4) B.blk.nd rfl (by first | exact Or.inl rfl | exact Or.inr rfl))) (fun _ _ _ _ _ => dts_nil) (fun _ _ _ _ _ => (wCall B.blk (c_integer_in.mono (by decide)) (da_cons (de_var 4) da_nil)))) (dg_any B.ct.k B.hc (dgs_cons (dg_name (i := 2) B.nd rfl (by first | exact Or.inl rfl | exact Or.inr rfl)) (dgs_cons (dg_name (i := 3) B.nd rfl (by first | exact Or.inl rfl | exact Or.inr rfl)) dgs_nil))))
  (dss_one (ds_ret (de_if (PWd.pt (dw_and (pt_valD (wCallD B (c_is_integer_3.mono (by decide)) rfl (da_cons (de_var 2) (da_cons (wNeg B (wCon (.int 20) rfl (hk 7 _ _ rfl))) (da_cons (wCon (.int 20) rfl (hk 7 _ _ rfl)) da_nil))))) (dw_and1 (pt_valD (wCallD B (c_is_integer_3.mono (by decide)) rfl (da_cons (de_var 3) (da_cons (wNeg B (wCon (.int 20) rfl (hk 7 _ _ rfl))) (da_cons (wCon (.int 20) rfl (hk 7 _ _ rfl)) da_nil)))))))) (de_tup (da_cons (wIx B (de_var 1) de_int) (da_cons (de_var 2) (da_cons (de_var 3) da_nil)))) de_non))))))
theorem sc_can_stand : FnScope n_can_stand ["places", "place"] (defScope (top 27)) := ⟨rfl, rfl, rfl, by decide +kernel, rfl, by decide +kernel, by decide +kernel⟩
theorem ok_can_stand (T : Tp prog K mg base errs tb fr) {f : Addr} {fd : FuncData} (F : FunD K "can_stand" "can_stand" (defArgs (top 27)) (defBody (top 27)) (defScope (top 27)) [] [] f fd)  :
    FnD prog w K mg base 2 f fd ["places", "place"] (spM ⟨K, mg, errs, tb⟩ 2 3 m_can_stand) :=
  CalD.of T F sc_can_stand fun X W cdv A outer s H E hX B hp tk => by
    subst hX
    exact (dss_one (ds_ret (wAll B (da_cons (de_lc (own := [("one", 2)]) B.hc B.nd (by decide : ∀ i ∈ (([("one", 2)] : List (Str × Nat)).map (·.2)), 2 ≤ i) (by decide) (di_any B.ct.k (de_var 0)) (blkOk_by (own := [("one", 2)]) (N := n_can_stand) (sc := defScope (top 27)) (by decide +kernel)) (fun _ _ _ _ _ => (dg_name (i := 2) B.blk.nd rfl (by first | exact Or.inl rfl | exact Or.inr rfl))) (fun _ _ _ _ _ => dts_nil) (fun _ _ _ _ _ => (de_and (wNe B.blk (wIx B.blk (de_var 2) de_int) (wIx B.blk (de_var 1) de_int)) (de_one (wNe B.blk (wSl B.blk (de_var 2) (do_at de_int) do_no) (wSl B.blk (de_var 1) (do_at de_int) do_no)))))) da_nil))))
theorem sc_taken : FnScope n_taken ["text"] (defScope (top 28)) := ⟨rfl, rfl, rfl, by decide +kernel, rfl, by decide +kernel, by decide +kernel⟩
theorem ok_taken (T : Tp prog K mg base errs tb fr) {f : Addr} {fd : FuncData} (F : FunD K "taken" "taken" (defArgs (top 28)) (defBody (top 28)) (defScope (top 28)) [] [] f fd) (hk : Kn mg cons) (c_place_in : Cal prog w K mg base 3 ⟨K, mg, errs, tb⟩ "place_in" 1 5 m_place_in) (c_can_stand : Cal prog w K mg base 2 ⟨K, mg, errs, tb⟩ "can_stand" 2 3 m_can_stand) :
    FnD prog w K mg base 4 f fd ["text"] (spM ⟨K, mg, errs, tb⟩ 1 5 m_taken) :=
  CalD.of T F sc_taken fun X W cdv A outer s H E hX B hp tk => by
    subst hX
    exact (dss_cons (ds_if (dt_not (pt_valD (wIsT B (de_var 0) bo_str))) (dss_one (ds_raise B.ct B.rm B.hc tk (by decide +kernel : ("BadTown" : Str) ∈ errs) (da_cons de_int da_nil) rfl)) dss_nil)
  (dss_cons (ds_set (i := 1) B.nd rfl (by first | exact Or.inl rfl | exact Or.inr rfl) (de_tup da_nil))
  (dss_cons (ds_for hp B.hc (di_enumC B.ct.k (by rfl) (B.free _ (by decide)) (da_cons (wSplit B (de_var 0) (wCon (.str "\n") rfl (hk 8 _ _ rfl))) (da_cons de_int da_nil))) (dg_any B.ct.k B.hc (dgs_cons (dg_name (i := 2) B.nd rfl (by first | exact Or.inl rfl | exact Or.inr rfl)) (dgs_cons (dg_name (i := 3) B.nd rfl (by first | exact Or.inl rfl | exact Or.inr rfl)) dgs_nil))) (dss_cons (ds_set (i := 4) B.nd rfl (by first | exact Or.inl rfl | exact Or.inr rfl) (wCall B (c_place_in.mono (by decide)) (da_cons (de_var 3) da_nil)))
  (dss_cons (ds_if (PWd.pt (dw_or (dt_isN (de_var 4)) (dw_or (xEq B (wLen B (da_cons (de_var 1) da_nil)) (wCon (.int 6) rfl (hk 9 _ _ rfl))) (dw_or1 (dt_not (pt_valD (wCall B (c_can_stand.mono (by decide)) (da_cons (de_var 1) (da_cons (de_var 4) da_nil))))))))) (dss_one (ds_raise B.ct B.rm B.hc tk (by decide +kernel : ("BadTown" : Str) ∈ errs) (da_cons (de_var 2) da_nil) rfl)) dss_nil)
  (dss_one (ds_set (i := 1) B.nd rfl (by first | exact Or.inl rfl | exact Or.inr rfl) (de_tupA (da_star B.ct.k (de_var 1) (da_cons (de_var 4) da_nil)) (plA_eAs plA_eA)))))))
  (dss_cons (ds_if (xLt B (wLen B (da_cons (de_var 1) da_nil)) (wCon (.int 2) rfl (hk 10 _ _ rfl))) (dss_one (ds_raise B.ct B.rm B.hc tk (by decide +kernel : ("BadTown" : Str) ∈ errs) (da_cons (wCon (.int 2) rfl (hk 10 _ _ rfl)) da_nil) rfl)) dss_nil)
  (dss_one (ds_ret (de_var 1)))))))
theorem sc_Town___init : FnScope n_Town___init ["self", "text"] (defScope (inCls (top 30) 1)) := ⟨rfl, rfl, rfl, by decide +kernel, rfl, by decide +kernel, by decide +kernel⟩
theorem ok_Town___init (T : Tp prog K mg base errs tb fr) {f : Addr} {fd : FuncData} (F : FunD K "__init__" "Town.__init__" (defArgs (inCls (top 30) 1)) (defBody (inCls (top 30) 1)) (defScope (inCls (top 30) 1)) [] [] f fd) (hs : SlL K mg slots) (c_taken : Cal prog w K mg base 4 ⟨K, mg, errs, tb⟩ "taken" 1 5 m_taken) :
    FnD prog w K mg base 5 f fd ["self", "text"] (spI ⟨K, mg, errs, tb⟩ "Town" 2 2 ini_Town) :=
  FnI.of T F sc_Town___init fun X W cdv A outer s H E hX B hp tk => by
    subst hX
    exact (ini_set rfl (hs 0 _ _ _ rfl) (wCall B (c_taken.mono (by decide)) (da_cons (de_var 1) da_nil))
  (ini_set rfl (hs 1 _ _ _ rfl) (de_var 1)
  ini_nil))
theorem sc_Town_text : FnScope n_Town_text ["self"] (defScope (inCls (top 30) 2)) := ⟨rfl, rfl, rfl, by decide +kernel, rfl, by decide +kernel, by decide +kernel⟩
theorem ok_Town_text (T : Tp prog K mg base errs tb fr) {f : Addr} {fd : FuncData} (F : FunD K "text" "Town.text" (defArgs (inCls (top 30) 2)) (defBody (inCls (top 30) 2)) (defScope (inCls (top 30) 2)) [] [] f fd) (hs : SlL K mg slots) :
    FnD prog w K mg base 2 f fd ["self"] (spM ⟨K, mg, errs, tb⟩ 1 1 m_Town_text) :=
  CalD.of T F sc_Town_text fun X W cdv A outer s H E hX B hp tk => by
    subst hX
    exact (dss_one (ds_ret (wSlot B (hs 1 _ _ _ rfl) (de_var 0))))
theorem sc_law_is_judged : FnScope n_law_is_judged ["_law_text_here"] (defScope (top 46)) := ⟨rfl, rfl, rfl, by decide +kernel, rfl, by decide +kernel, by decide +kernel⟩
theorem ok_law_is_judged (T : Tp prog K mg base errs tb fr) {f : Addr} {fd : FuncData} (F : FunD K "_law_is_judged" "_law_is_judged" (defArgs (top 46)) (defBody (top 46)) (defScope (top 46)) [] [] f fd) {cA PA : Addr} (hfc : fd.code = .ref cA) (tbx : LamX.TabB base mg cA PA) (ht : TabOne tb PA "_law_is_judged.<locals>.<lambda>") (c_law_wrong_line : Cal prog w K mg base 3 ⟨K, mg, errs, tb⟩ "_law_wrong_line" 1 10 m_law_wrong_line) (i_Town : CalI prog w K mg base 5 ⟨K, mg, errs, tb⟩ "Town" 2 2 ini_Town []) (ct : CalT prog K mg "_law_told") (p_Town_text : CalP prog w K mg base 2 ⟨K, mg, errs, tb⟩ "Town" "text" 1 m_Town_text) :
    FnD prog w K mg base 9 f fd ["_law_text_here"] (spM ⟨K, mg, errs, tb⟩ 1 4 m_law_is_judged) :=
  FnM.ofL T F sc_law_is_judged hfc fun X W A outer s H E hX B hp tk => by
    subst hX
    exact (dss_cons (ds_set (i := 1) B.nd rfl (by first | exact Or.inl rfl | exact Or.inr rfl) (wCall B (c_law_wrong_line.mono (by decide)) (da_cons (de_var 0) da_nil)))
  (dss_cons (ds_asg (wTold B ct tbx rfl (by exact ht.1) (by exact ht.2) (fun _ h => h) (by show ("HomeError" : Str) ∈ errs; decide +kernel) (fun A outer s H E f c' B => (wMk B (i_Town.mono (by decide)) (da_cons (de_var 0) da_nil))) (L := LamX.lamS_by (show LamX.lamSB (defScope (top 46)) _ = true by decide +kernel))) (dg_any B.ct.k B.hc (dgs_cons (dg_name (i := 2) B.nd rfl (by first | exact Or.inl rfl | exact Or.inr rfl)) (dgs_cons (dg_name (i := 3) B.nd rfl (by first | exact Or.inl rfl | exact Or.inr rfl)) dgs_nil))))
  (dss_cons (ds_if (xEq B (de_var 1) de_int) (dss_one (ds_ret (de_and (de_isN (de_var 2)) (de_one (wEq B (wPrO B (p_Town_text.mono (by decide)) (de_var 3)) (de_var 0)))))) dss_nil)
  (dss_one (ds_ret (de_and (wIsE B (de_var 2) (by decide +kernel : ("BadTown" : Str) ∈ errs)) (de_one (wEq B (wRepr B (da_cons (wVal B (de_var 2)) da_nil)) (wRepr B (da_cons (de_var 1) da_nil))))))))))
theorem sc_law_spoilt : FnScope n_law_spoilt ["_law_pot_here", "_law_rows"] (defScope (top 45)) := ⟨rfl, rfl, rfl, by decide +kernel, rfl, by decide +kernel, by decide +kernel⟩
theorem ok_law_spoilt (T : Tp prog K mg base errs tb fr) {f : Addr} {fd : FuncData} (F : FunD K "_law_spoilt" "_law_spoilt" (defArgs (top 45)) (defBody (top 45)) (defScope (top 45)) [] [] f fd) (c_law_take : Cal prog w K mg base 2 ⟨K, mg, errs, tb⟩ "_law_take" 2 5 m_law_take) (c_law_of : Cal prog w K mg base 3 ⟨K, mg, errs, tb⟩ "_law_of" 2 2 m_law_of) :
    FnD prog w K mg base 4 f fd ["_law_pot_here", "_law_rows"] (spM ⟨K, mg, errs, tb⟩ 2 9 m_law_spoilt) :=
  CalD.of T F sc_law_spoilt fun X W cdv A outer s H E hX B hp tk => by
    subst hX
    exact (dss_cons (ds_par (i := 2) (j := 3) B.hc B.nd rfl rfl (by decide) rfl rfl (wCall B (c_law_take.mono (by decide)) (da_cons (de_var 0) (da_cons de_int da_nil))) (wCall B (c_law_take.mono (by decide)) (da_cons (de_var 0) (da_cons (wLen B (da_cons (de_var 1) da_nil)) da_nil))) rfl)
  (dss_cons (ds_set (i := 4) B.nd rfl (by first | exact Or.inl rfl | exact Or.inr rfl) (wSplit B (wIx B (de_var 1) (de_var 3)) de_str))
  (dss_cons (ds_set (i := 5) B.nd rfl (by first | exact Or.inl rfl | exact Or.inr rfl) (wCall B (c_law_take.mono (by decide)) (da_cons (de_var 0) (da_cons (wLen B (da_cons (de_var 4) da_nil)) da_nil))))
  (dss_cons (ds_if (xLt B (de_var 2) de_int) (dss_one (ds_ret (wIx B (de_lst (da_cons (wAdd B (wSl B (de_var 1) do_no (do_at (de_var 3))) (wSl B (de_var 1) (do_at (wAdd B (de_var 3) de_int)) do_no)) (da_cons (wAdd B (wSl B (de_var 1) do_no (do_at (wAdd B (de_var 3) de_int))) (wSl B (de_var 1) (do_at (de_var 3)) do_no)) da_nil))) (de_var 2)))) dss_nil)
  (dss_cons (ds_if (xEq B (de_var 2) de_int) (dss_one (ds_ret (wAdd B (wAdd B (wSl B (de_var 1) do_no (do_at (de_var 3))) (wRev (wSl B (de_var 1) (do_at (de_var 3)) (do_at (wAdd B (de_var 3) de_int))))) (wSl B (de_var 1) (do_at (wAdd B (de_var 3) de_int)) do_no)))) dss_nil)
  (dss_cons (ds_if (xEq B (de_var 2) de_int) (dss_cons (ds_set (i := 6) B.nd rfl (by first | exact Or.inl rfl | exact Or.inr rfl) (de_lst (da_cons de_str (da_cons de_str (da_cons de_str (da_cons de_str (da_cons de_str (da_cons de_str da_nil))))))))
  (dss_one (ds_ret (wAdd B (wAdd B (wSl B (de_var 1) do_no (do_at (de_var 3))) (de_lst (da_cons (wCall B (c_law_of.mono (by decide)) (da_cons (de_var 0) (da_cons (de_var 6) da_nil))) da_nil))) (wSl B (de_var 1) (do_at (de_var 3)) do_no))))) dss_nil)
  (dss_cons (ds_set (i := 7) B.nd rfl (by first | exact Or.inl rfl | exact Or.inr rfl) (de_lst (da_cons de_str (da_cons de_str (da_cons de_str (da_cons de_str (da_cons de_str (da_cons de_str (da_cons de_str (da_cons de_str (da_cons de_str (da_cons de_str (da_cons de_str (da_cons de_str (da_cons de_str (da_cons de_str (da_cons de_str (da_cons de_str da_nil))))))))))))))))))
  (dss_cons (ds_set (i := 7) B.nd rfl (by first | exact Or.inl rfl | exact Or.inr rfl) (wAdd B (de_var 7) (de_lst (da_cons de_str (da_cons (wIx B (de_var 4) de_int) (da_cons (wAdd B (wIx B (de_var 4) (de_var 5)) (wIx B (de_var 4) (de_var 5))) (da_cons (wAdd B (wIx B (de_var 4) (de_var 5)) de_str) (da_cons (wAdd B de_str (wIx B (de_var 4) (de_var 5))) (da_cons de_str da_nil)))))))))
  (dss_cons (ds_set (i := 8) B.nd rfl (by first | exact Or.inl rfl | exact Or.inr rfl) (de_if (xEq B (de_var 2) de_int) (de_lst da_nil) (de_lst (da_cons (wCall B (c_law_of.mono (by decide)) (da_cons (de_var 0) (da_cons (de_var 7) da_nil))) da_nil))))
  (dss_cons (ds_set (i := 4) B.nd rfl (by first | exact Or.inl rfl | exact Or.inr rfl) (wAdd B (wAdd B (wSl B (de_var 4) do_no (do_at (de_var 5))) (de_var 8)) (wSl B (de_var 4) (do_at (wAdd B (de_var 5) (wInt B (da_cons (wNe B (de_var 2) de_int) da_nil)))) do_no)))
  (dss_one (ds_ret (wAdd B (wAdd B (wSl B (de_var 1) do_no (do_at (de_var 3))) (de_lst (da_cons (wJoin B de_str (de_var 4)) da_nil))) (wSl B (de_var 1) (do_at (wAdd B (de_var 3) de_int)) do_no))))))))))))))
theorem sc_law_odd : FnScope n_law_odd ["_law_pot_here"] (defScope (top 38)) := ⟨rfl, rfl, rfl, by decide +kernel, rfl, by decide +kernel, by decide +kernel⟩
theorem ok_law_odd (T : Tp prog K mg base errs tb fr) {f : Addr} {fd : FuncData} (F : FunD K "_law_odd" "_law_odd" (defArgs (top 38)) (defBody (top 38)) (defScope (top 38)) [] [] f fd) (c_law_of : Cal prog w K mg base 3 ⟨K, mg, errs, tb⟩ "_law_of" 2 2 m_law_of) :
    FnD prog w K mg base 4 f fd ["_law_pot_here"] (spM ⟨K, mg, errs, tb⟩ 1 2 m_law_odd) :=
  CalD.of T F sc_law_odd fun X W cdv A outer s H E hX B hp tk => by
    subst hX
    exact (dss_cons (ds_set (i := 1) B.nd rfl (by first | exact Or.inl rfl | exact Or.inr rfl) (de_lst (da_cons de_non (da_cons de_bl (da_cons de_bl (da_cons de_int (da_cons de_int (da_cons (wNeg B de_int) (da_cons de_int (da_cons (wPow B de_int de_int) (da_cons de_str (da_cons de_str (da_cons de_str (da_cons (de_tup da_nil) (da_cons (de_lst da_nil) (da_cons de_disp0 (da_cons (de_tup (da_cons de_int da_nil)) (da_cons (de_tup (da_cons (de_tup da_nil) da_nil)) (da_cons (de_lst (da_cons de_int da_nil)) (da_cons (de_tup (da_cons de_str (da_cons de_str da_nil))) (da_cons de_str da_nil)))))))))))))))))))))
  (dss_one (ds_ret (wCall B (c_law_of.mono (by decide)) (da_cons (de_var 0) (da_cons (wAdd B (de_var 1) (de_lst (da_cons (de_tup (da_cons de_str (da_cons de_str da_nil))) (da_cons (de_tup (da_cons de_int (da_cons de_int (da_cons de_int da_nil)))) (da_cons (de_tup (da_cons de_int (da_cons de_int (da_cons de_int da_nil)))) (da_cons (de_tup (da_cons de_str da_nil)) (da_cons (de_disp (ps := [((eC (.str "a")), (eC (.int 1)))]) (pps_cons de_str de_int pps_nil) rfl rfl (by intro h; cases h) (by decide)) (da_cons de_str (da_cons (de_tup (da_cons de_bl (da_cons de_int (da_cons de_int da_nil)))) (da_cons (de_lst (da_cons de_str (da_cons de_str da_nil))) da_nil)))))))))) da_nil))))))
theorem sc_law_right : FnScope n_law_right ["_law_pot_here"] (defScope (top 47)) := ⟨rfl, rfl, rfl, by decide +kernel, rfl, by decide +kernel, by decide +kernel⟩
theorem ok_law_right (T : Tp prog K mg base errs tb fr) {f : Addr} {fd : FuncData} (F : FunD K "_law_right" "_law_right" (defArgs (top 47)) (defBody (top 47)) (defScope (top 47)) [] [] f fd) {cA PA : Addr} (hfc : fd.code = .ref cA) (tbx : LamX.TabB base mg cA PA) (ht : TabOne tb PA "_law_right.<locals>.<lambda>") (c_law_of : Cal prog w K mg base 3 ⟨K, mg, errs, tb⟩ "_law_of" 2 2 m_law_of) (c_law_town : Cal prog w K mg base 5 ⟨K, mg, errs, tb⟩ "_law_town" 4 7 m_law_town) (c_law_text : Cal prog w K mg base 2 ⟨K, mg, errs, tb⟩ "_law_text" 1 4 m_law_text) (c_law_is_judged : Cal prog w K mg base 9 ⟨K, mg, errs, tb⟩ "_law_is_judged" 1 4 m_law_is_judged) (c_law_spoilt : Cal prog w K mg base 4 ⟨K, mg, errs, tb⟩ "_law_spoilt" 2 9 m_law_spoilt) (c_law_take : Cal prog w K mg base 2 ⟨K, mg, errs, tb⟩ "_law_take" 2 5 m_law_take) (c_law_odd : Cal prog w K mg base 4 ⟨K, mg, errs, tb⟩ "_law_odd" 1 2 m_law_odd) (i_Town : CalI prog w K mg base 5 ⟨K, mg, errs, tb⟩ "Town" 2 2 ini_Town []) (ct : CalT prog K mg "_law_told") (c_law_wrong_line : Cal prog w K mg base 3 ⟨K, mg, errs, tb⟩ "_law_wrong_line" 1 10 m_law_wrong_line) :
    FnD prog w K mg base 10 f fd ["_law_pot_here"] (spM ⟨K, mg, errs, tb⟩ 1 7 m_law_right) :=
  FnM.ofL T F sc_law_right hfc fun X W A outer s H E hX B hp tk => by
    subst hX
    exact (dss_cons (ds_set (i := 1) B.nd rfl (by first | exact Or.inl rfl | exact Or.inr rfl) (wSplit B (wCall B (c_law_text.mono (by decide)) (da_cons (wCall B (c_law_town.mono (by decide)) (da_cons (de_var 0) (da_cons de_int (da_cons de_int (da_cons (wCall B (c_law_of.mono (by decide)) (da_cons (de_var 0) (da_cons (de_lst (da_cons de_int (da_cons de_int da_nil))) da_nil))) da_nil))))) da_nil)) de_str))
  (dss_cons (ds_if (dt_not (pt_valD (wCall B (c_law_is_judged.mono (by decide)) (da_cons (wJoin B de_str (de_var 1)) da_nil)))) (dss_one (ds_ret de_bl)) dss_nil)
  (dss_cons (ds_for hp B.hc (di_range (by rfl) (B.free _ (by decide)) (da_cons de_int da_nil)) (dg_name (i := 2) B.nd rfl (by first | exact Or.inl rfl | exact Or.inr rfl)) (dss_cons (ds_set (i := 3) B.nd rfl (by first | exact Or.inl rfl | exact Or.inr rfl) (wCall B (c_law_spoilt.mono (by decide)) (da_cons (de_var 0) (da_cons (de_var 1) da_nil))))
  (dss_cons (ds_if (PWd.pt (dw_and (xNe B (de_var 3) (de_lst da_nil)) (dw_and1 (xEq B (wCall B (c_law_take.mono (by decide)) (da_cons (de_var 0) (da_cons de_int da_nil))) de_int)))) (dss_one (ds_set (i := 3) B.nd rfl (by first | exact Or.inl rfl | exact Or.inr rfl) (wCall B (c_law_spoilt.mono (by decide)) (da_cons (de_var 0) (da_cons (de_var 3) da_nil))))) dss_nil)
  (dss_one (ds_if (dt_not (pt_valD (wCall B (c_law_is_judged.mono (by decide)) (da_cons (wJoin B de_str (de_var 3)) da_nil)))) (dss_one (ds_ret de_bl)) dss_nil)))))
  (dss_cons (ds_for hp B.hc (di_tup B.ct.k (de_tup (da_cons de_non (da_cons de_int (da_cons de_bl (da_cons (de_var 1) (da_cons (wTuple B (da_cons (de_var 1) da_nil)) (da_cons de_disp0 (da_cons (wCall B (c_law_odd.mono (by decide)) (da_cons (de_var 0) da_nil)) da_nil))))))))) (dg_name (i := 4) B.nd rfl (by first | exact Or.inl rfl | exact Or.inr rfl)) (dss_cons (ds_set (i := 5) B.nd rfl (by first | exact Or.inl rfl | exact Or.inr rfl) (wIx B (wTold B ct tbx rfl (by exact ht.1) (by exact ht.2) (fun _ h => h) (by show ("HomeError" : Str) ∈ errs; decide +kernel) (fun A outer s H E f c' B => (wMk B (i_Town.mono (by decide)) (da_cons (de_var 4) da_nil))) (L := LamX.lamS_by (show LamX.lamSB (defScope (top 47)) _ = true by decide +kernel))) de_int))
  (dss_cons (ds_set (i := 6) B.nd rfl (by first | exact Or.inl rfl | exact Or.inr rfl) (de_if (pt_valD (wIsT B (de_var 4) bo_str)) (wCall B (c_law_wrong_line.mono (by decide)) (da_cons (de_var 4) da_nil)) de_int))
  (dss_one (ds_if (PWd.pt (dw_or (dt_not (pt_valD (wIsE B (de_var 5) (by decide +kernel : ("BadTown" : Str) ∈ errs)))) (dw_or1 (xNe B (wRepr B (da_cons (wVal B (de_var 5)) da_nil)) (wRepr B (da_cons (de_var 6) da_nil)))))) (dss_one (ds_ret de_bl)) dss_nil)))))
  (dss_one (ds_ret (de_and (wCall B (c_law_is_judged.mono (by decide)) (da_cons de_str da_nil)) (de_and (wCall B (c_law_is_judged.mono (by decide)) (da_cons (wAdd B (wJoin B de_str (de_var 1)) de_str) da_nil)) (de_one (wCall B (c_law_is_judged.mono (by decide)) (da_cons (wAdd B de_str (wJoin B de_str (de_var 1))) da_nil)))))))))))
theorem sc_law : FnScope n_law ["_law_script"] (defScope (top 48)) := ⟨rfl, rfl, rfl, by decide +kernel, rfl, by decide +kernel, by decide +kernel⟩
theorem ok_law (T : Tp prog K mg base errs tb fr) {f : Addr} {fd : FuncData} (F : FunD K "law" "law" (defArgs (top 48)) (defBody (top 48)) (defScope (top 48)) [] [] f fd) (c_law_cells : Cal prog w K mg base 2 ⟨K, mg, errs, tb⟩ "_law_cells" 2 2 m_law_cells) (c_law_pot : Cal prog w K mg base 2 ⟨K, mg, errs, tb⟩ "_law_pot" 2 5 m_law_pot) (c_law_right : Cal prog w K mg base 10 ⟨K, mg, errs, tb⟩ "_law_right" 1 7 m_law_right) :
    FnD prog w K mg base 11 f fd ["_law_script"] (spM ⟨K, mg, errs, tb⟩ 1 4 m_law) :=
  CalD.of T F sc_law fun X W cdv A outer s H E hX B hp tk => by
    subst hX
    exact (dss_cons (ds_for hp B.hc (di_any B.ct.k (wCall B (c_law_cells.mono (by decide)) (da_cons (de_var 0) (da_cons de_int da_nil)))) (dg_name (i := 1) B.nd rfl (by first | exact Or.inl rfl | exact Or.inr rfl)) (dss_cons (ds_set (i := 2) B.nd rfl (by first | exact Or.inl rfl | exact Or.inr rfl) (wCall B (c_law_pot.mono (by decide)) (da_cons (de_var 0) (da_cons (de_var 1) da_nil))))
  (dss_one (ds_if (dt_not (pt_valD (wAll B (da_cons (de_lc (own := [("_law_lap", 3)]) B.hc B.nd (by decide : ∀ i ∈ (([("_law_lap", 3)] : List (Str × Nat)).map (·.2)), 1 ≤ i) (by decide) (di_range (by rfl) (B.free _ (by decide)) (da_cons de_int da_nil)) (blkOk_by (own := [("_law_lap", 3)]) (N := n_law) (sc := defScope (top 48)) (by decide +kernel)) (fun _ _ _ _ _ => (dg_name (i := 3) B.blk.nd rfl (by first | exact Or.inl rfl | exact Or.inr rfl))) (fun _ _ _ _ _ => dts_nil) (fun _ _ _ _ _ => (wCall B.blk (c_law_right.mono (by decide)) (da_cons (de_var 2) da_nil)))) da_nil)))) (dss_one (ds_ret de_bl)) dss_nil))))
  (dss_one (ds_ret de_bl)))
theorem sc_told : FnScope toldN ["_law_look"] (defScope (top 37)) := ⟨rfl, rfl, rfl, by decide +kernel, rfl, by decide +kernel, by decide +kernel⟩
theorem ok_told {f CS : Addr} {fd : FuncData} (F : FunD K "_law_told" "_law_told" (defArgs (top 37)) (defBody (top 37)) (defScope (top 37)) [] [] f fd) (hm : mg "_law_told" = some (.ref f)) (hCS : mg "HomeError" = some (.ref CS)) : CalT prog K mg "_law_told" := by
  have hb : Binds K fd ["_law_look"] [] := F.bindsN fun _ _ _ _ _ _ us hl => match us, hl with | [_], _ => rfl
  have kp := F.kp
  obtain ⟨oc, od, dV, kV, doc, pm, an, cdv, ct, osl, rfl, lk, hcd, _, _⟩ := F.ex
  refine ⟨f, oc, od, _, _, _, dV, kV, doc, pm, cdv, ct, an, osl, CS, hm, kp, lk, hcd, hb, sc_told, .inl rfl, hCS, fun X e1 e2 e3 => ?_⟩
  exact told_gives sc_told rfl (by rw [e3]; exact hCS) rfl rfl rfl rfl (fun a => rfl)
end
end K02

set_option Elab.async false
set_option linter.all false
set_option maxRecDepth 100000
set_option maxHeartbeats 1000000
namespace K02
open PySem PySem.Spec L2 DL
open PyProof.Rows hiding St
theorem isint_int (i lo hi : Int) : m_is_integer [some (false, .int i), some (false, .int lo), some (false, .int hi)] = .ok (.rt (.val (.bl (decide (lo ≤ i) && decide (i ≤ hi))))) [some (false, .int i), some (false, .int lo), some (false, .int hi)] := by
  have h1 : isiF (.ty "int") (.int i) = some (.val (.bl true)) := rfl
  have h2 : isiF (.ty "bool") (.int i) = some (.val (.bl false)) := rfl
  have h3 : isNF (.int lo) = some (.val (.bl false)) := rfl
  have h4 : isNF (.int hi) = some (.val (.bl false)) := rfl
  have h5 : ∀ a b : Int, leF (.int a) (.int b) = some (.val (.bl (decide (a ≤ b)))) := fun _ _ => rfl
  by_cases h : lo ≤ i <;> simp [m_is_integer, sSeq, sIf, sNil, sRet, tV, tNot', tOr', e1, e2, eV, eC, nrm, nrmO, fin1, fin2, finT, look, eAnd, eOr, retO, h1, h2, h3, h4, h5, h]
theorem isint_non (lo hi : D) : m_is_integer [some (false, .non), some (false, lo), some (false, hi)] = .ok (.rt (.val (.bl false))) [some (false, .non), some (false, lo), some (false, hi)] := by
  have h1 : isiF (.ty "int") .non = some (.val (.bl false)) := rfl
  simp [m_is_integer, sSeq, sIf, sNil, sRet, tV, tNot', tOr', e1, e2, eV, eC, nrm, nrmO, fin1, fin2, finT, look, eAnd, eOr, retO, h1]
/-! is_name -/
def lowS : Str := "abcdefghijklmnopqrstuvwxyz"
def figS : Str := "0123456789"
def nameB (s : Str) : Bool := decide (1 ≤ s.length) && decide (s.length ≤ 8) && s.cps.toList.all fun c => decide (c ∈ lowS.cps.toList)
end K02

set_option Elab.async false
set_option linter.all false
set_option maxRecDepth 100000
set_option maxHeartbeats 1000000
namespace K02
open PySem PySem.Spec L2 DL
open PyProof.Rows hiding St
theorem asBl_map : ∀ bs : List Bool, asBl (bs.map .bl) = some bs
  | [] => rfl
  | b :: bs => by rw [List.map_cons]; unfold asBl; rw [asBl_map bs]; rfl
theorem allF_map (bs : List Bool) : allF [.lst (bs.map .bl)] = some (.val (.bl (bs.all id))) := by
  unfold allF; dsimp only; rw [asBl_map]; rfl
theorem len_str {s : Str} (h : s.length ≤ 10000) : lenF [.str s] = some (.val (.int s.length)) := by
  show (if _ then _ else _) = _
  rw [if_pos (by omega)]
theorem isname_run (s : Str) (h : okS s) : ∃ ρ, m_is_name [some (false, .str s), none] = .ok (.rt (.val (.bl (nameB s)))) ρ := by
  have h1 : isiF (.ty "str") (.str s) = some (.val (.bl true)) := rfl
  have h5 : ∀ a b : Int, leF (.int a) (.int b) = some (.val (.bl (decide (a ≤ b)))) := fun _ _ => rfl
  let ρ : DEnv := [some (false, .str s), none]
  have hc : tOr' (tNot' (tV (e1 (eV 0) (isiF (.ty "str"))))) (tNot' (tV (eCh (eC (.int 1)) (eB [(eV 0)] lenF) (eC (.int 8)) leF leF))) ρ = .ok (!(decide (1 ≤ s.length) && decide (s.length ≤ 8))) ρ := by
    have e1' : decide ((1 : Int) ≤ (s.length : Int)) = decide (1 ≤ s.length) := decide_eq_decide.mpr (by omega)
    have e2' : decide ((s.length : Int) ≤ 8) = decide (s.length ≤ 8) := decide_eq_decide.mpr (by omega)
    by_cases hl : 1 ≤ s.length <;> simp [ρ, tV, tNot', tOr', e1, eV, eC, nrm, nrmO, fin1, fin2, finT, look, h1, eCh, eB, eA, finB, looks, len_str h.2, h5, hl, e1', e2']
  by_cases hn : (decide (1 ≤ s.length) && decide (s.length ≤ 8)) = true
  · refine ⟨ρ, ?_⟩
    have hlt : s.cps.toList.length ≤ 16777216 := by have := h.2; simp only [Str.length] at this; simpa using (by omega : s.cps.size ≤ 16777216)
    have hm : eLc (iOf anyK (eV 0)) [1] (tgN 1 1) tYes' (e2 (eV 1) (eC (.str "abcdefghijklmnopqrstuvwxyz")) inF) ρ = .ok (.own (.lst ((s.cps.toList.map fun c => D.str ⟨#[c]⟩).map fun d => match d with | .str z => .bl (z.cps.toList.all fun c => decide (c ∈ lowS.cps.toList)) | _ => .non))) ρ := by
      refine eLc_map (ρw := ρ) _ (ρ1 := ρ) (ds := s.cps.toList.map fun c => D.str ⟨#[c]⟩) ?_ rfl (by simpa using hlt) ?_
      · simp [iOf, eV, ρ, itO, takeO, anyK, lstK, tupK, strK]
      · intro d hd
        obtain ⟨c, hc, rfl⟩ := List.mem_map.mp hd
        refine ⟨[some (false, .str s), some (false, .str ⟨#[c]⟩)], .val (.bl (decide (c ∈ lowS.cps.toList))), [some (false, .str s), some (false, .str ⟨#[c]⟩)], [some (false, .str s), some (false, .str ⟨#[c]⟩)], rfl, ?_, ?_, rfl⟩
        · exact e2_ok (eV_ok rfl) rfl rfl rfl rfl
        · simp [takeO]
    have hb : eB [(eLc (iOf anyK (eV 0)) [1] (tgN 1 1) tYes' (e2 (eV 1) (eC (.str "abcdefghijklmnopqrstuvwxyz")) inF))] allF ρ = .ok (.val (.bl (nameB s))) ρ := by
      refine eB_ok (eA_cons hm eA_nil) rfl ?_
      have e : (((s.cps.toList.map fun c => D.str ⟨#[c]⟩).map fun d => match d with | .str z => D.bl (z.cps.toList.all fun c => decide (c ∈ lowS.cps.toList)) | _ => D.non)) = (s.cps.toList.map fun c => decide (c ∈ lowS.cps.toList)).map D.bl := by
        rw [List.map_map, List.map_map]
        refine List.map_congr_left fun c _ => ?_
        simp
      rw [e, allF_map]
      unfold nameB
      rw [hn, Bool.true_and]
      congr 3
      rw [List.all_map]; rfl
    unfold m_is_name
    refine (sSeq_nx ((sIf_ok hc).trans ?_)).trans (sRet_ok hb rfl)
    rw [hn]; rfl
  · refine ⟨ρ, ?_⟩
    have hn' : (decide (1 ≤ s.length) && decide (s.length ≤ 8)) = false := by simpa using hn
    have e : nameB s = false := by unfold nameB; rw [hn']; rfl
    unfold m_is_name
    refine (sSeq_rt ((sIf_ok hc).trans ?_))
    rw [hn', e]; rfl
end K02

set_option Elab.async false
set_option linter.all false
set_option maxRecDepth 100000
set_option maxHeartbeats 1000000
namespace K02
open PySem PySem.Spec L2 DL
open PyProof.Rows hiding St
/-- what integer_in tells of a word -/
def IntR (w : Str) (d : D) : Prop := ∃ ρ, m_integer_in [some (false, .str w), none, none, none] = .ok (.rt (.val d)) ρ
/-- none, or an integer -/
def isND : D → Bool
  | .non => true
  | .int _ => true
  | _ => false
def edgeB : D → Bool
  | .int i => decide (-20 ≤ i) && decide (i ≤ 20)
  | _ => false
theorem isint_nd {d : D} (h : isND d = true) : m_is_integer [some (false, d), some (false, .int (-20)), some (false, .int 20)] = .ok (.rt (.val (.bl (edgeB d)))) [some (false, d), some (false, .int (-20)), some (false, .int 20)] := by
  cases d with
  | non => exact isint_non _ _
  | int i => exact isint_int i _ _
  | _ => cases h
/-- what place_in tells of four words -/
def placeW (w0 w1 : Str) (d2 d3 : D) : D := if w0 = "place" ∧ nameB w1 = true ∧ edgeB d2 = true ∧ edgeB d3 = true then .tup [.str w1, d2, d3] else .non
theorem okPlace : okS "place" := ⟨by decide +kernel, by decide +kernel⟩
theorem split_ok {l : Str} (h : okS l) : splitF (.str l) (.str " ") = some (.own (.lst ((Txt.split l " ").map .str))) := by
  show (if _ then _ else _) = _
  rw [if_pos ⟨by decide +kernel, by have := h.2; omega⟩]
theorem place_not4 {l : Str} (hl : okS l) (h4 : (Txt.split l " ").length ≠ 4) (hb : (Txt.split l " ").length ≤ 16777216) : ∃ ρ, m_place_in [some (false, .str l), none, none, none, none] = .ok (.rt (.val .non)) ρ := by
  let ws := (Txt.split l " ").map D.str
  let ρ1 : DEnv := [some (false, .str l), some (true, .lst ws), none, none, none]
  have a1 : sAsg 1 1 (eM1 (eV 0) (eC (.str " ")) splitF) [some (false, .str l), none, none, none, none] = .ok .nx ρ1 := by
    simp [sAsg, eM1, eV, eC, nrm, nrmO, look, split_ok hl, rsv, asg, okSet, isCont, fin2, ρ1, ws]
  have c1 : tV (e2 (eB [(eV 1)] lenF) (eC (.int 4)) neF) ρ1 = .ok true ρ1 := by
    have e : ((Txt.split l " ").length : Int) ≠ 4 := by omega
    simp [tV, e2, eB, eA, eV, eC, nrm, nrmO, finB, looks, look, lenF, fin2, neF_int, finT, ρ1, ws, e]
  refine ⟨ρ1, ?_⟩
  unfold m_place_in
  exact (sSeq_nx a1).trans (sSeq_rt ((sIf_ok (tOr_t c1)).trans rfl))
theorem place_4 {l w0 w1 w2 w3 : Str} {d2 d3 : D} (hl : okS l) (hs : Txt.split l " " = [w0, w1, w2, w3]) (h0 : okS w0) (h1 : okS w1) (i2 : IntR w2 d2) (i3 : IntR w3 d3) (n2 : isND d2 = true) (n3 : isND d3 = true) :
    ∃ ρ, m_place_in [some (false, .str l), none, none, none, none] = .ok (.rt (.val (placeW w0 w1 d2 d3))) ρ := by
  let ws : List D := [.str w0, .str w1, .str w2, .str w3]
  let ρ1 : DEnv := [some (false, .str l), some (true, .lst ws), none, none, none]
  have a1 : sAsg 1 1 (eM1 (eV 0) (eC (.str " ")) splitF) [some (false, .str l), none, none, none, none] = .ok .nx ρ1 := by
    simp [sAsg, eM1, eV, eC, nrm, nrmO, look, split_ok hl, rsv, asg, okSet, isCont, fin2, ρ1, ws, hs]
  have c1 : tV (e2 (eB [(eV 1)] lenF) (eC (.int 4)) neF) ρ1 = .ok false ρ1 := by
    simp [tV, e2, eB, eA, eV, eC, nrm, nrmO, finB, looks, look, lenF, fin2, neF_int, finT, ρ1, ws]
  have c2 : tV (e2 (e2 (eV 1) (eC (.int 0)) ixF) (eC (.str "place")) neF) ρ1 = .ok (!decide (w0 = "place")) ρ1 :=
    tV_ok (e2_ok (e2_ok (eV_ok rfl) rfl rfl rfl rfl) rfl rfl rfl (neF_str h0 okPlace)) rfl
  obtain ⟨ρn, hn⟩ := isname_run w1 h1
  have c3 : tV (eCall 1 2 m_is_name [(e2 (eV 1) (eC (.int 1)) ixF)]) ρ1 = .ok (nameB w1) ρ1 :=
    tV_ok (call_val (eA_cons (e2_ok (eV_ok rfl) rfl rfl rfl rfl) eA_nil) rfl rfl rfl hn) rfl
  have c : tOr' (tV (e2 (eB [(eV 1)] lenF) (eC (.int 4)) neF)) (tOr' (tV (e2 (e2 (eV 1) (eC (.int 0)) ixF) (eC (.str "place")) neF)) (tNot' (tV (eCall 1 2 m_is_name [(e2 (eV 1) (eC (.int 1)) ixF)])))) ρ1 = .ok (!(decide (w0 = "place") && nameB w1)) ρ1 := by
    refine (tOr_f c1).trans ?_
    by_cases hw : w0 = "place"
    · rw [decide_eq_true hw] at c2 ⊢
      exact (tOr_f c2).trans (tNot_ok c3)
    · rw [decide_eq_false hw] at c2 ⊢
      exact tOr_t c2
  by_cases hk : (decide (w0 = "place") && nameB w1) = true
  · obtain ⟨k0, k1⟩ := Bool.and_eq_true_iff.mp hk
    obtain ⟨ρi2, hi2⟩ := i2
    obtain ⟨ρi3, hi3⟩ := i3
    have ic : ∀ {w : Str} {d : D} {ρi : DEnv}, m_integer_in [some (false, .str w), none, none, none] = .ok (.rt (.val d)) ρi → eCall 1 4 m_integer_in [(eV 4)] [some (false, .str l), some (true, .lst ws), none, none, some (false, .str w)] = .ok (.val d) [some (false, .str l), some (true, .lst ws), none, none, some (false, .str w)] :=
      fun h => call_val (eA_cons (eV_ok rfl) eA_nil) rfl rfl rfl h
    have hlc : eLc (iOf anyK (eSl (eV 1) (pAt (eC (.int 2))) pNo)) [4] (tgN 1 4) tYes' (eCall 1 4 m_integer_in [(eV 4)]) ρ1 = .ok (.own (.lst [d2, d3])) ρ1 := by
      refine eLc_ok (ds := [.str w2, .str w3]) (ρ1 := ρ1) rfl ?_
      have q2 := ic hi2
      have q3 := ic hi3
      have t2 : takeO (.val d2) [some (false, .str l), some (true, .lst ws), none, none, some (false, .str w2)] = some (d2, [some (false, .str l), some (true, .lst ws), none, none, some (false, .str w2)]) := rfl
      have t3 : takeO (.val d3) [some (false, .str l), some (true, .lst ws), none, none, some (false, .str w3)] = some (d3, [some (false, .str l), some (true, .lst ws), none, none, some (false, .str w3)]) := rfl
      simp [lcGo, tgN, okSet, tYes', wipeD, ρ1, q2, q3, t2, t3]
    let ρ2 : DEnv := [some (false, .str l), some (true, .lst ws), some (false, d2), some (false, d3), none]
    have a2 : sAsgT (tgA 2 [(tgN 1 2), (tgN 1 3)]) (eLc (iOf anyK (eSl (eV 1) (pAt (eC (.int 2))) pNo)) [4] (tgN 1 4) tYes' (eCall 1 4 m_integer_in [(eV 4)])) ρ1 = .ok .nx ρ2 := by
      unfold sAsgT
      rw [hlc]
      rfl
    have q2 : tV (eCallD 3 3 m_is_integer [(eV 2), (e1 (eC (.int 20)) negF), (eC (.int 20))] []) ρ2 = .ok (edgeB d2) ρ2 :=
      tV_ok (callD_val (eA_cons (eV_ok rfl) (eA_cons (e1_ok rfl rfl rfl) (eA_cons rfl eA_nil))) rfl rfl rfl (isint_nd n2)) rfl
    have q3 : tV (eCallD 3 3 m_is_integer [(eV 3), (e1 (eC (.int 20)) negF), (eC (.int 20))] []) ρ2 = .ok (edgeB d3) ρ2 :=
      tV_ok (callD_val (eA_cons (eV_ok rfl) (eA_cons (e1_ok rfl rfl rfl) (eA_cons rfl eA_nil))) rfl rfl rfl (isint_nd n3)) rfl
    have q : tAnd' (tV (eCallD 3 3 m_is_integer [(eV 2), (e1 (eC (.int 20)) negF), (eC (.int 20))] [])) (tV (eCallD 3 3 m_is_integer [(eV 3), (e1 (eC (.int 20)) negF), (eC (.int 20))] [])) ρ2 = .ok (edgeB d2 && edgeB d3) ρ2 := by
      cases hd : edgeB d2 with
      | true => rw [hd] at q2; exact (tAnd_t q2).trans q3
      | false => rw [hd] at q2; exact tAnd_f q2
    refine ⟨ρ2, ?_⟩
    unfold m_place_in
    refine (sSeq_nx a1).trans ((sSeq_nx ((sIf_ok c).trans (by rw [hk]; rfl))).trans ((sSeq_nx a2).trans ?_))
    by_cases he : (edgeB d2 && edgeB d3) = true
    · obtain ⟨g2, g3⟩ := Bool.and_eq_true_iff.mp he
      have e : placeW w0 w1 d2 d3 = .tup [.str w1, d2, d3] := if_pos ⟨of_decide_eq_true k0, k1, g2, g3⟩
      rw [e]
      refine sRet_ok ((eIf_ok q).trans ?_) rfl (o := .val (.tup [.str w1, d2, d3])) (ρ1 := ρ2)
      rw [he, if_pos rfl]
      exact eTup_ok (eA_cons (e2_ok (eV_ok rfl) rfl rfl rfl rfl) (eA_cons (eV_ok rfl) (eA_cons (eV_ok rfl) eA_nil))) rfl (Nat.le_of_ble_eq_true rfl)
    · have e : placeW w0 w1 d2 d3 = .non := if_neg fun z => he (by rw [z.2.2.1, z.2.2.2]; rfl)
      rw [e]
      refine sRet_ok ((eIf_ok q).trans ?_) rfl (o := .val .non) (ρ1 := ρ2)
      rw [if_neg he]; rfl
  · have hk' : (decide (w0 = "place") && nameB w1) = false := by simpa using hk
    have e : placeW w0 w1 d2 d3 = .non := if_neg fun z => hk (by rw [decide_eq_true z.1, z.2.1]; rfl)
    refine ⟨ρ1, ?_⟩
    rw [e]
    unfold m_place_in
    exact (sSeq_nx a1).trans (sSeq_rt ((sIf_ok c).trans (by rw [hk']; rfl)))
end K02

set_option Elab.async false
set_option linter.all false
set_option maxRecDepth 100000
set_option maxHeartbeats 1000000
namespace K02
open PySem PySem.Spec L2 DL
open PyProof.Rows hiding St
abbrev Pl : Type := Str × Int × Int
def plD (p : Pl) : D := .tup [.str p.1, .int p.2.1, .int p.2.2]
def offB (p q : Pl) : Bool := !decide (q.1 = p.1) && !(decide (q.2.1 = p.2.1) && decide (q.2.2 = p.2.2))
def canS (P : List Pl) (p : Pl) : Bool := P.all (offB p)
theorem cutS1 {p : Pl} : slF (some 1) none (plD p) = some (.val (.tup [.int p.2.1, .int p.2.2])) := rfl
theorem stand_run (P : List Pl) (p : Pl) (hP : ∀ q ∈ P, okS q.1) (hp : okS p.1) (hl : P.length ≤ 1000) : ∃ ρ, m_can_stand [some (false, .tup (P.map plD)), some (false, plD p), none] = .ok (.rt (.val (.bl (canS P p)))) ρ := by
  let ρ : DEnv := [some (false, .tup (P.map plD)), some (false, plD p), none]
  have hm : eLc (iOf anyK (eV 0)) [2] (tgN 2 2) tYes' (eAnd (e2 (e2 (eV 2) (eC (.int 0)) ixF) (e2 (eV 1) (eC (.int 0)) ixF) neF) (e2 (eSl (eV 2) (pAt (eC (.int 1))) pNo) (eSl (eV 1) (pAt (eC (.int 1))) pNo) neF)) ρ =
      .ok (.own (.lst ((P.map plD).map fun d => match d with | .tup [.str n, .int x, .int y] => .bl (offB p (n, x, y)) | _ => .non))) ρ := by
    refine eLc_map (ρw := ρ) (ρ1 := ρ) (ds := P.map plD) _ rfl rfl (by rw [List.length_map]; omega) ?_
    intro d hd
    obtain ⟨q, hq, rfl⟩ := List.mem_map.mp hd
    let ρ2 : DEnv := [some (false, .tup (P.map plD)), some (false, plD p), some (false, plD q)]
    have c1 : e2 (e2 (eV 2) (eC (.int 0)) ixF) (e2 (eV 1) (eC (.int 0)) ixF) neF ρ2 = .ok (.val (.bl (!decide (q.1 = p.1)))) ρ2 :=
      e2_ok (e2_ok (eV_ok rfl) rfl rfl rfl rfl) (e2_ok (eV_ok rfl) rfl rfl rfl rfl) rfl rfl (neF_str (hP q hq) hp)
    have sl : ∀ {i : Nat} {z : Pl}, ρ2[i]? = some (some (false, plD z)) → eSl (eV i) (pAt (eC (.int 1))) pNo ρ2 = .ok (.val (.tup [.int z.2.1, .int z.2.2])) ρ2 := fun {i z} h => by
      have hv : nrm (eV i) ρ2 = .ok (.slot i) ρ2 := nrm_eV h
      show (nrm (eV i) ρ2).bind _ = _
      rw [hv, R.bind_ok]
      have lk : look (.slot i) ρ2 = some (plD z) := by unfold look; dsimp only; rw [h]
      show fin1 (slF (some 1) none) (.slot i) ρ2 = _
      unfold fin1
      rw [lk]
      dsimp only
      rw [cutS1]
    have c2 : e2 (eSl (eV 2) (pAt (eC (.int 1))) pNo) (eSl (eV 1) (pAt (eC (.int 1))) pNo) neF ρ2 = .ok (.val (.bl (!(decide (q.2.1 = p.2.1) && decide (q.2.2 = p.2.2))))) ρ2 :=
      e2_ok (sl (i := 2) (z := q) rfl) (sl (i := 1) (z := p) rfl) rfl rfl neF_pair
    have c3 : eAnd (e2 (e2 (eV 2) (eC (.int 0)) ixF) (e2 (eV 1) (eC (.int 0)) ixF) neF) (e2 (eSl (eV 2) (pAt (eC (.int 1))) pNo) (eSl (eV 1) (pAt (eC (.int 1))) pNo) neF) ρ2 = .ok (.val (.bl (offB p q))) ρ2 := by
      unfold offB
      by_cases h : q.1 = p.1
      · rw [decide_eq_true h] at c1 ⊢; exact eAnd_f c1 rfl
      · rw [decide_eq_false h] at c1 ⊢; exact (eAnd_t c1 rfl).trans c2
    exact ⟨ρ2, _, ρ2, ρ2, rfl, c3, rfl, rfl⟩
  have e : ((P.map plD).map fun d => match d with | .tup [.str n, .int x, .int y] => D.bl (offB p (n, x, y)) | _ => D.non) = (P.map (offB p)).map D.bl := by
    rw [List.map_map, List.map_map]; rfl
  rw [e] at hm
  refine ⟨ρ, ?_⟩
  unfold m_can_stand
  have e2 : allF [.lst ((P.map (offB p)).map D.bl)] = some (.val (.bl (canS P p))) := by
    rw [allF_map]
    unfold canS
    rw [List.all_map]; rfl
  exact sRet_ok (eB_ok (eA_cons hm eA_nil) rfl e2) rfl
def plO : Option Pl → D
  | some p => plD p
  | none => .non
/-- what place_in tells of a line -/
def PlaceR (l : Str) (o : Option Pl) : Prop := (∀ p, o = some p → okS p.1) ∧ ∃ ρ, m_place_in [some (false, .str l), none, none, none, none] = .ok (.rt (.val (plO o))) ρ
def goS : List Pl → Int → List (Option Pl) → Except Int (List Pl)
  | acc, _, [] => if acc.length < 2 then .error 2 else .ok acc
  | _, k, none :: _ => .error k
  | acc, k, some p :: r => if acc.length = 6 ∨ canS acc p = false then .error k else goS (acc ++ [p]) (k + 1) r
abbrev takB : M Fl := (sSeq (sAsg 1 4 (eCall 1 5 m_place_in [(eV 3)]))
  (sSeq (sIf (tOr' (tV (e1 (eV 4) isNF)) (tOr' (tV (e2 (eB [(eV 1)] lenF) (eC (.int 6)) eqF)) (tNot' (tV (eCall 2 3 m_can_stand [(eV 1), (eV 4)]))))) (sRaise (eV 2) "BadTown") sNil)
  (sAsg 1 1 (eTupA (eAs (eV 1) (eA [(eV 4)]))))))
abbrev takE : M Fl := (sSeq (sIf (tV (e2 (eB [(eV 1)] lenF) (eC (.int 2)) ltF)) (sRaise (eC (.int 2)) "BadTown") sNil)
  (sRet 1 (eV 1)))
theorem takeAll_vals {ρ ρ' : DEnv} {os : List Opd} {es : List D} : ∀ ds : List D, takeAll os ρ = some (es, ρ') → takeAll (ds.map Opd.val ++ os) ρ = some (ds ++ es, ρ')
  | [], h => h
  | d :: ds, h => by
    rw [List.map_cons, List.cons_append]
    unfold takeAll
    have e : takeO (.val d) ρ = some (d, ρ) := rfl
    rw [e]
    dsimp only
    rw [takeAll_vals ds h]
    rfl
theorem sSeq_exc {a b : M Fl} {ρ ρ1 : DEnv} {c : Str} {d : D} (h : a ρ = .exc c d ρ1) : sSeq a b ρ = .exc c d ρ1 := by
  show (a ρ).bind _ = _
  rw [h]; rfl
theorem takes_run (text : Str) : ∀ (ls : List Str) (os : List (Option Pl)), Paired PlaceR ls os → ∀ (acc : List Pl) (j : Nat) (x2 x3 x4 : DL.Slot), (∀ q ∈ acc, okS q.1) → acc.length ≤ 6 →
    ∃ ρ', sSeq (loopF (tgA 2 [(tgN 1 2), (tgN 1 3)]) takB (((ls.map D.str).zipIdx j).map fun z => .tup [.int (1 + (z.2 : Nat)), z.1])) takE [some (false, .str text), some (false, .tup (acc.map plD)), x2, x3, x4] =
      (match goS acc (1 + (j : Nat)) os with
        | .ok P => .ok (.rt (.val (.tup (P.map plD)))) ρ'
        | .error k => .exc "BadTown" (.int k) ρ')
  | [], _, .nil, acc, j, x2, x3, x4, _, h6 => by
    let ρ : DEnv := [some (false, .str text), some (false, .tup (acc.map plD)), x2, x3, x4]
    refine ⟨ρ, ?_⟩
    have c : tV (e2 (eB [(eV 1)] lenF) (eC (.int 2)) ltF) ρ = .ok (decide (acc.length < 2)) ρ := by
      have e : ltF (.int ((acc.map plD).length : Int)) (.int 2) = some (.val (.bl (decide (acc.length < 2)))) := by
        show some (Opd.val (.bl (decide (((acc.map plD).length : Int) < 2)))) = _
        rw [List.length_map]
        congr 3
        exact decide_eq_decide.mpr (by omega)
      exact tV_ok (e2_ok (eB_ok (eA_cons (eV_ok rfl) eA_nil) rfl rfl) rfl rfl rfl e) rfl
    refine (sSeq_nx (ρ1 := ρ) rfl).trans ?_
    unfold goS
    by_cases hl : acc.length < 2
    · rw [decide_eq_true hl] at c
      rw [if_pos hl]
      exact sSeq_exc ((sIf_ok c).trans rfl)
    · rw [decide_eq_false hl] at c
      rw [if_neg hl]
      exact (sSeq_nx ((sIf_ok c).trans rfl)).trans rfl
  | l :: ls, o :: os, .cons hl ht, acc, j, x2, x3, x4, ha, h6 => by
    obtain ⟨ho, ρp, hp⟩ := hl
    let d4 : D := plO o
    let ρ1 : DEnv := [some (false, .str text), some (false, .tup (acc.map plD)), some (false, .int (1 + (j : Nat))), some (false, .str l), x4]
    let ρ2 : DEnv := [some (false, .str text), some (false, .tup (acc.map plD)), some (false, .int (1 + (j : Nat))), some (false, .str l), some (false, d4)]
    have tg : tgA 2 [(tgN 1 2), (tgN 1 3)] (.tup [.int (1 + (j : Nat)), .str l]) [some (false, .str text), some (false, .tup (acc.map plD)), x2, x3, x4] = some ρ1 := by
      cases x2 <;> cases x3 <;> rfl
    have a1 : sAsg 1 4 (eCall 1 5 m_place_in [(eV 3)]) ρ1 = .ok .nx ρ2 := by
      refine sAsg_ok (o := .val d4) (ρ1 := ρ1) (call_val (eA_cons (eV_ok rfl) eA_nil) rfl rfl rfl hp) rfl ?_
      cases x4 <;> rfl
    have out : ∀ (b : Bool) (k : Int), tOr' (tV (e1 (eV 4) isNF)) (tOr' (tV (e2 (eB [(eV 1)] lenF) (eC (.int 6)) eqF)) (tNot' (tV (eCall 2 3 m_can_stand [(eV 1), (eV 4)])))) ρ2 = .ok true ρ2 →
        sSeq (loopF (tgA 2 [(tgN 1 2), (tgN 1 3)]) takB ((((l :: ls).map D.str).zipIdx j).map fun z => .tup [.int (1 + (z.2 : Nat)), z.1])) takE [some (false, .str text), some (false, .tup (acc.map plD)), x2, x3, x4] = .exc "BadTown" (.int (1 + (j : Nat))) ρ2 := fun b k hc => by
      refine sSeq_exc ?_
      rw [List.map_cons, List.zipIdx_cons, List.map_cons]
      unfold loopF
      dsimp only
      rw [tg]
      dsimp only
      have : takB ρ1 = .exc "BadTown" (.int (1 + (j : Nat))) ρ2 := (sSeq_nx a1).trans (sSeq_exc ((sIf_ok hc).trans rfl))
      rw [this]; rfl
    cases o with
    | none =>
      refine ⟨ρ2, ?_⟩
      unfold goS
      exact out true 0 (tOr_t rfl)
    | some p =>
      have c1 : tV (e1 (eV 4) isNF) ρ2 = .ok false ρ2 := rfl
      have c2 : tV (e2 (eB [(eV 1)] lenF) (eC (.int 6)) eqF) ρ2 = .ok (decide (acc.length = 6)) ρ2 := by
        have e : eqF (.int ((acc.map plD).length : Int)) (.int 6) = some (.val (.bl (decide (acc.length = 6)))) := by
          rw [eqF_int, List.length_map]
          congr 3
          exact decide_eq_decide.mpr (by omega)
        exact tV_ok (e2_ok (eB_ok (eA_cons (eV_ok rfl) eA_nil) rfl rfl) rfl rfl rfl e) rfl
      obtain ⟨ρs, hs⟩ := stand_run acc p ha (ho p rfl) (by omega)
      have c3 : tNot' (tV (eCall 2 3 m_can_stand [(eV 1), (eV 4)])) ρ2 = .ok (!canS acc p) ρ2 :=
        tNot_ok (tV_ok (call_val (eA_cons (eV_ok rfl) (eA_cons (eV_ok rfl) eA_nil)) rfl rfl rfl hs) rfl)
      unfold goS
      by_cases hb : acc.length = 6 ∨ canS acc p = false
      · rw [if_pos hb]
        refine ⟨ρ2, out true 0 ((tOr_f c1).trans ?_)⟩
        by_cases h : acc.length = 6
        · rw [decide_eq_true h] at c2; exact tOr_t c2
        · rw [decide_eq_false h] at c2
          rw [hb.resolve_left h] at c3
          exact (tOr_f c2).trans c3
      · rw [if_neg hb]
        have h1 : ¬ acc.length = 6 := fun z => hb (.inl z)
        have h2 : canS acc p = true := by
          cases e : canS acc p with
          | true => rfl
          | false => exact (hb (.inr e)).elim
        rw [decide_eq_false h1] at c2
        rw [h2] at c3
        obtain ⟨ρ', ih⟩ := takes_run text ls os ht (acc ++ [p]) (j + 1) (some (false, .int (1 + (j : Nat)))) (some (false, .str l)) (some (false, plD p)) (fun q hq => by
          rcases List.mem_append.mp hq with hq | hq
          · exact ha q hq
          · rw [List.mem_singleton.mp hq]; exact ho p rfl) (by rw [List.length_append, List.length_singleton]; omega)
        refine ⟨ρ', ?_⟩
        have e : (1 : Int) + ((j + 1 : Nat) : Int) = 1 + (j : Nat) + 1 := by omega
        rw [e] at ih
        refine Eq.trans ?_ ih
        have a3 : sAsg 1 1 (eTupA (eAs (eV 1) (eA [(eV 4)]))) ρ2 = .ok .nx [some (false, .str text), some (false, .tup ((acc ++ [p]).map plD)), some (false, .int (1 + (j : Nat))), some (false, .str l), some (false, plD p)] := by
          have hz : (acc.map plD ++ [plD p]).length ≤ 16777216 := by rw [List.length_append, List.length_map, List.length_singleton]; omega
          rw [List.map_append]
          have t4 : takeAll ((acc.map plD).map Opd.val ++ [Opd.slot 4]) ρ2 = some (acc.map plD ++ [plD p], ρ2) := takeAll_vals _ rfl
          have e3 : eTupA (eAs (eV 1) (eA [(eV 4)])) ρ2 = .ok (.val (.tup (acc.map plD ++ [plD p]))) ρ2 := by
            show (R.ok ((acc.map plD).map Opd.val ++ [Opd.slot 4]) ρ2).bind _ = _
            rw [R.bind_ok, t4]
            dsimp only
            rw [if_pos hz]
          exact sAsg_ok e3 rfl rfl
        have lc : loopF (tgA 2 [(tgN 1 2), (tgN 1 3)]) takB ((((l :: ls).map D.str).zipIdx j).map fun z => .tup [.int (1 + (z.2 : Nat)), z.1]) [some (false, .str text), some (false, .tup (acc.map plD)), x2, x3, x4] = loopF (tgA 2 [(tgN 1 2), (tgN 1 3)]) takB (((ls.map D.str).zipIdx (j + 1)).map fun z => .tup [.int (1 + (z.2 : Nat)), z.1]) [some (false, .str text), some (false, .tup ((acc ++ [p]).map plD)), some (false, .int (1 + (j : Nat))), some (false, .str l), some (false, plD p)] := by
          rw [List.map_cons, List.zipIdx_cons, List.map_cons]
          exact loop_cons tg ((sSeq_nx a1).trans ((sSeq_nx ((sIf_ok ((tOr_f c1).trans ((tOr_f c2).trans c3))).trans rfl)).trans a3)) rfl
        exact congrArg (fun z => R.bind z _) lc
end K02

set_option Elab.async false
set_option linter.all false
set_option maxRecDepth 100000
set_option maxHeartbeats 1000000
namespace K02
open PySem PySem.Spec L2 DL
open PyProof.Rows hiding St
/-- what a text tells -/
structure TakenR (text : Str) (r : Except Int (List Pl)) : Prop where
  ok : okS text
  ex : ∃ os, Paired PlaceR (Txt.split text "\n") os ∧ r = goS [] 1 os
def townD (P : List Pl) (text : Str) : D := .obj "Town" [.tup (P.map plD), .str text]
def takenQ (r : Except Int (List Pl)) (ρ : DEnv) : R Fl := match r with
  | .ok P => .ok (.rt (.val (.tup (P.map plD)))) ρ
  | .error k => .exc "BadTown" (.int k) ρ
theorem taken_run {text : Str} {r : Except Int (List Pl)} (h : TakenR text r) : ∃ ρ, m_taken [some (false, .str text), none, none, none, none] = takenQ r ρ := by
  obtain ⟨hok, os, hp, rfl⟩ := h
  obtain ⟨ρ', e⟩ := takes_run text _ os hp [] 0 none none none (fun _ z => nomatch z) (Nat.zero_le _)
  refine ⟨ρ', ?_⟩
  let ρ0 : DEnv := [some (false, .str text), none, none, none, none]
  let ρ1 : DEnv := [some (false, .str text), some (false, .tup []), none, none, none]
  have c : tNot' (tV (e1 (eV 0) (isiF (.ty "str")))) ρ0 = .ok false ρ0 := tNot_ok (c := true) (tV_ok (e1_ok (eV_ok rfl) rfl rfl) rfl)
  have a1 : sAsg 1 1 (eTup []) ρ0 = .ok .nx ρ1 := sAsg_ok (eTup_ok eA_nil rfl (Nat.le_of_ble_eq_true rfl)) rfl rfl
  have sp : eM1 (eV 0) (eC (.str "\n")) splitF ρ1 = .ok (.own (.lst ((Txt.split text "\n").map .str))) ρ1 := by
    have : splitF (.str text) (.str "\n") = some (.own (.lst ((Txt.split text "\n").map .str))) := by
      show (if _ then _ else _) = _
      rw [if_pos ⟨by decide +kernel, by have := hok.2; omega⟩]
    show (nrm (eV 0) ρ1).bind _ = _
    rw [nrm_eV (x := (false, .str text)) rfl, R.bind_ok]
    show (match splitF (.str text) (.str "\n") with | some o => R.ok o ρ1 | none => R.bad) = _
    rw [this]
  have it : iEnK (eM1 (eV 0) (eC (.str "\n")) splitF) (eC (.int 1)) ρ1 = .ok ((((Txt.split text "\n").map D.str).zipIdx 0).map fun z => .tup [.int (1 + (z.2 : Nat)), z.1]) ρ1 := by
    have ea : eA [eM1 (eV 0) (eC (.str "\n")) splitF, eC (.int 1)] ρ1 = .ok [.val (.lst ((Txt.split text "\n").map .str)), .val (.int 1)] ρ1 := eA_cons sp (eA_cons (f := eC (.int 1)) (o := .val (.int 1)) rfl eA_nil)
    show (eA [_, _] ρ1).bind _ = _
    rw [ea, R.bind_ok]
    rfl
  unfold m_taken
  refine (sSeq_nx ((sIf_ok c).trans rfl)).trans ((sSeq_nx a1).trans ?_)
  have f1 : sFor (iEnK (eM1 (eV 0) (eC (.str "\n")) splitF) (eC (.int 1))) (tgA 2 [(tgN 1 2), (tgN 1 3)]) takB ρ1 = loopF (tgA 2 [(tgN 1 2), (tgN 1 3)]) takB ((((Txt.split text "\n").map D.str).zipIdx 0).map fun z => .tup [.int (1 + (z.2 : Nat)), z.1]) ρ1 := sFor_ok it rfl
  have e' : sSeq (sFor (iEnK (eM1 (eV 0) (eC (.str "\n")) splitF) (eC (.int 1))) (tgA 2 [(tgN 1 2), (tgN 1 3)]) takB) takE ρ1 = takenQ (goS [] 1 os) ρ' := by
    have e2 : sSeq (sFor (iEnK (eM1 (eV 0) (eC (.str "\n")) splitF) (eC (.int 1))) (tgA 2 [(tgN 1 2), (tgN 1 3)]) takB) takE ρ1 = sSeq (loopF (tgA 2 [(tgN 1 2), (tgN 1 3)]) takB ((((Txt.split text "\n").map D.str).zipIdx 0).map fun z => .tup [.int (1 + (z.2 : Nat)), z.1])) takE ρ1 := congrArg (fun z => R.bind z _) f1
    exact e2.trans e
  exact e'
/-- Town(text) -/
def mkQ (r : Except Int (List Pl)) (text : Str) (ρ : DEnv) : R Opd := match r with
  | .ok P => .ok (.val (townD P text)) ρ
  | .error k => .exc "BadTown" (.int k) ρ
theorem mk_town {text : Str} {r : Except Int (List Pl)} (h : TakenR text r) {f : M Opd} {ρ ρ1 : DEnv} (hf : f ρ = .ok (.val (.str text)) ρ1) : eMk "Town" 2 2 ini_Town [f] [] ρ = mkQ r text ρ1 := by
  obtain ⟨ρt, ht⟩ := taken_run h
  show (eA [f] ρ).bind _ = _
  rw [eA_cons hf eA_nil, R.bind_ok]
  have hr : runI ini_Town [] [none, some (false, .str text)] = (match r with | .ok P => R.ok [some (.tup (P.map plD)), some (.str text)] [none, some (false, .str text)] | .error k => .exc "BadTown" (.int k) [none, some (false, .str text)]) := by
    unfold ini_Town runI
    cases r with
    | ok P =>
      have c : eCall 1 5 m_taken [(eV 1)] [none, some (false, .str text)] = .ok (.val (.tup (P.map plD))) [none, some (false, .str text)] := call_val (eA_cons (eV_ok rfl) eA_nil) rfl rfl rfl ht
      rw [c]; rfl
    | error k =>
      have c : eCall 1 5 m_taken [(eV 1)] [none, some (false, .str text)] = .exc "BadTown" (.int k) [none, some (false, .str text)] := call_exc (eA_cons (eV_ok rfl) eA_nil) rfl rfl rfl ht
      rw [c]; rfl
  show (if 1 + 0 + 1 = 2 ∧ allFz [some (false, D.str text)] = true then (match runI ini_Town [] [none, some (false, .str text)] with
    | .ok (x :: r) _ => (match fullD (x :: r) with
      | some ds => R.ok (Opd.val (.obj "Town" ds)) ρ1
      | none => .bad)
    | .exc c d _ => .exc c d ρ1
    | _ => .bad) else .bad) = _
  rw [if_pos ⟨rfl, rfl⟩, hr]
  cases r <;> rfl
def toldQ (r : Except Int (List Pl)) (text : Str) : D := match r with
  | .ok P => .tup [.non, townD P text]
  | .error k => .tup [.exc "BadTown" (.int k), .non]
theorem told_town {text : Str} {r : Except Int (List Pl)} (h : TakenR text r) {f : M Opd} {ρ ρ1 : DEnv} (hf : f ρ = .ok (.val (.str text)) ρ1) : eTold errs (eMk "Town" 2 2 ini_Town [f] []) ρ = .ok (.val (toldQ r text)) ρ1 := by
  unfold eTold
  rw [mk_town h hf]
  cases r with
  | ok P => rfl
  | error k =>
    show (if errs.contains "BadTown" then _ else _) = _
    rw [if_pos (by decide +kernel)]; rfl
theorem asStr_map : ∀ ss : List Str, asStr (ss.map D.str) = some ss
  | [] => rfl
  | s :: ss => by rw [List.map_cons]; unfold asStr; rw [asStr_map ss]; rfl
theorem join_run {rows : List Str} {i : Nat} {ρ : DEnv} {a : Str} {b : Bool} (hi : ρ[i]? = some (some (b, .lst (rows.map .str)))) (hl : (rows.map (·.length)).sum + rows.length * a.length ≤ 16777216) : eM1 (eC (.str a)) (eV i) joinF ρ = .ok (.val (.str (Txt.join a rows))) ρ := by
  show (nrm (eC (.str a)) ρ).bind _ = _
  rw [nrm_eC, R.bind_ok]
  show ((nrm (eV i) ρ).bind _) = _
  rw [nrm_eV hi, R.bind_ok]
  have l : look (.slot i) ρ = some (.lst (rows.map .str)) := by unfold look; dsimp only; rw [hi]
  unfold fin2
  rw [l]
  show (match joinS a (rows.map .str) with | some o => R.ok o ρ | none => R.bad) = _
  unfold joinS
  rw [asStr_map]
  dsimp only
  rw [if_pos hl]
end K02

set_option Elab.async false
set_option linter.all false
set_option maxRecDepth 100000
set_option maxHeartbeats 2000000
set_option exponentiation.threshold 10000
namespace K02
open PySem PySem.Spec L2 DL
open PyProof.Rows hiding St
def Pot (N : Nat) (d : D) : Prop := ∃ a b c : Int, d = .lst [.int a, .int b, .int c] ∧ 0 ≤ a ∧ 0 ≤ b ∧ b.natAbs < 2 ^ 900 ∧ 0 ≤ c ∧ c ≤ N
theorem prime_at (c : Int) : ∃ P : Int, ixF (.lst [.int 2147483647, .int 2147483629, .int 2147483587, .int 2147483579, .int 2147483563]) (.int (c % 5)) = some (.val (.int P)) ∧ 0 < P ∧ P.natAbs < 2 ^ 31 := by
  have h0 := Int.emod_nonneg c (by decide : (5 : Int) ≠ 0)
  have h1 := Int.emod_lt_of_pos c (by decide : (0 : Int) < 5)
  generalize c % 5 = m at h0 h1
  obtain rfl | rfl | rfl | rfl | rfl : m = 0 ∨ m = 1 ∨ m = 2 ∨ m = 3 ∨ m = 4 := by omega
  all_goals exact ⟨_, rfl, by decide, by decide⟩
theorem ix0 (x y z : D) : ixF (.lst [x, y, z]) (.int 0) = some (.val x) := rfl
theorem ix1 (x y z : D) : ixF (.lst [x, y, z]) (.int 1) = some (.val y) := rfl
theorem ix2 (x y z : D) : ixF (.lst [x, y, z]) (.int 2) = some (.val z) := rfl
theorem nab_mul {i j : Int} {a b : Nat} (ha : i.natAbs < 2 ^ a) (hb : j.natAbs < 2 ^ b) : (i * j).natAbs < 2 ^ (a + b) := wide_lt ha hb
theorem nab_add {i j : Int} {a b : Nat} (ha : i.natAbs < 2 ^ a) (hb : j.natAbs < 2 ^ b) : (i + j).natAbs < 2 ^ (max a b + 1) := by
  have h1 : 2 ^ a ≤ 2 ^ (max a b) := Nat.pow_le_pow_right (by decide) (Nat.le_max_left _ _)
  have h2 : 2 ^ b ≤ 2 ^ (max a b) := Nat.pow_le_pow_right (by decide) (Nat.le_max_right _ _)
  have h3 := Int.natAbs_add_le i j
  rw [Nat.pow_succ]; omega
theorem take_run {N : Nat} {p : D} (hp : Pot N p) (hN : N + 1 < 2 ^ 900) {n : Int} (hn : 0 < n) (hn2 : n.natAbs < 2 ^ 60) :
    ∃ r p' rest, m_law_take (startD 5 [some (true, p), some (false, .int n)]) = .ok (.rt (.val (.int r))) (some (true, p') :: rest) ∧ 0 ≤ r ∧ r < n ∧ Pot (N + 1) p' := by
  obtain ⟨a, b, c, rfl, h1, h2, h3, h4, h5⟩ := hp
  have hl : n.natAbs.log2 < 9000 := Nat.lt_of_lt_of_le (log2_lt hn2 (by decide)) (by decide)
  by_cases ha : 0 < a
  · refine ⟨a % n, .lst [.int (a / n), .int b, .int c], [some (false, .int n), some (false, .int (a % n)), none, none], ?_, Int.emod_nonneg _ (by omega), Int.emod_lt_of_pos _ hn, a / n, b, c, rfl, Int.ediv_nonneg h1 (by omega), h2, h3, h4, by omega⟩
    simp [m_law_take, startD, sSeq, sIf, tV, e2, eV, eC, nrm, nrmO, fin2, look, ixF, atI, ixN, gtF, finT, eB, eA, finB, looks, intF, sAsg, rsv, asg, okSet, isCont, modF, hn, hl, ha, List.replicate, sSetI, takeO, divF, setF, finS, sRet, retO]
  · obtain ⟨P, hP, P0, P1⟩ := prime_at (c + 1)
    have b1 : (c + 1).natAbs < 2 ^ 900 := by omega
    have m1 : mulF (.int 100809) (.int (c + 1)) = some (.val (.int (100809 * (c + 1)))) := mulF_ok 17 900 (by decide) b1
    have b2 : (100809 * (c + 1)).natAbs < 2 ^ (17 + 900) := nab_mul (by decide) b1
    have m2 : mulF (.int (100809 * (c + 1))) (.int (c + 1)) = some (.val (.int (100809 * (c + 1) * (c + 1)))) := mulF_ok _ _ b2 b1
    have b3 := nab_mul b2 b1
    have b4 := nab_add h3 b3
    have b5 := nab_add b4 (show (71 : Int).natAbs < 2 ^ 7 by decide)
    have p1 : powF (.int (b + 100809 * (c + 1) * (c + 1) + 71)) (.int 3) = some (.val (.int ((b + 100809 * (c + 1) * (c + 1) + 71) ^ 3))) := by
      show (if _ then _ else _) = _
      have := log2_lt b5 (by decide)
      have e : max (max 900 (17 + 900 + 900) + 1) 7 + 1 = 1819 := by decide
      rw [e] at this
      exact if_pos ⟨by decide, by show _ * 3 ≤ _; omega⟩
    have q1 : 0 ≤ (b + 100809 * (c + 1) * (c + 1) + 71) ^ 3 % P := Int.emod_nonneg _ (by omega)
    have q2 : (b + 100809 * (c + 1) * (c + 1) + 71) ^ 3 % P < P := Int.emod_lt_of_pos _ P0
    have m3 : mulF (.int 199) (.int (c + 1)) = some (.val (.int (199 * (c + 1)))) := mulF_ok 8 900 (by decide) b1
    generalize hX : (b + 100809 * (c + 1) * (c + 1) + 71) ^ 3 = X at p1 q1 q2
    have b6 : (X % P).natAbs < 2 ^ 31 := by omega
    have b7 : (X % P % 10433).natAbs < 2 ^ 31 := by omega
    have b8 := nab_add b7 (nab_mul (show (199 : Int).natAbs < 2 ^ 8 by decide) b1)
    have m4 : mulF (.int (X % P)) (.int (X % P % 10433 + 199 * (c + 1))) = some (.val (.int (X % P * (X % P % 10433 + 199 * (c + 1))))) := mulF_ok _ _ b6 b8
    have d1 : Nat.log2 139 < 9000 := by decide
    refine ⟨(X % P * (X % P % 10433 + 199 * (c + 1)) % 2305843009213693907 / 139) % n, .lst [.int a, .int b, .int (c + 1)], ?_, ?_, Int.emod_nonneg _ (by omega), Int.emod_lt_of_pos _ hn, a, b, c + 1, rfl, h1, h2, h3, by omega, by omega⟩
    rotate_left
    · simp [m_law_take, startD, sSeq, sIf, sNil, tV, e2, eV, eC, nrm, nrmO, fin2, look, ix0, ix1, ix2, gtF, finT, eB, eA, finB, looks, intF, sAsg, rsv, asg, okSet, isCont, modF, hn, ha, List.replicate, sSetI, takeO, divF, setF, finS, sRet, retO, eLst, takeAll, addF, m1, m2, m3, m4, p1, hP, P0, ixN, d1]
      rfl
theorem atI_nat {α : Type} {xs : List α} {r : Int} (h0 : 0 ≤ r) (h1 : r < xs.length) : ∃ x, atI xs r = some x ∧ x ∈ xs := by
  have hl : r.toNat < xs.length := by omega
  refine ⟨xs[r.toNat], ?_, List.getElem_mem hl⟩
  unfold atI ixN
  rw [if_pos h0, if_pos h1]
  show xs[r.toNat]? = _
  exact List.getElem?_eq_getElem hl
def T60 : Int := 10 ^ 60
def BIG : Int := (10 ^ 60) ^ 5
def T18 : Int := 10 ^ 18
theorem pw1 : powF (.int 10) (.int 60) = some (.val (.int T60)) := by kernel_rfl
theorem pw2 : powF (.int T60) (.int 5) = some (.val (.int BIG)) := by kernel_rfl
theorem pw3 : powF (.int 10) (.int 18) = some (.val (.int T18)) := by kernel_rfl
theorem big_pos : 0 < BIG := by decide +kernel
theorem big_lt : BIG.natAbs < 2 ^ 1000 := by decide +kernel
theorem cell_run (ns : List Int) (k : Nat) (hk : k < 2 ^ 30) : ∃ cell : Int, sAsg 2 2 (eIf (tV (e2 (eV 1) (eB [(eV 0)] lenF) ltF)) (e2 (eV 0) (eV 1) ixF) (e2 (e2 (eC (.int 335)) (eV 1) mulF) (eC (.int 153)) addF)) [some (false, .scr ns), some (false, .int k), none, none, none] = .ok .nx [some (false, .scr ns), some (false, .int k), some (false, .int cell), none, none] := by
  let ρ : DEnv := [some (false, .scr ns), some (false, .int k), none, none, none]
  have t : tV (e2 (eV 1) (eB [(eV 0)] lenF) ltF) ρ = .ok (decide ((k : Int) < (ns.length : Int))) ρ := tV_ok (e2_ok (eV_ok rfl) (eB_ok (eA_cons (eV_ok rfl) eA_nil) rfl rfl) rfl rfl rfl) rfl
  by_cases h : k < ns.length
  · refine ⟨ns[k], sAsg_ok (o := .val (.int ns[k])) (ρ1 := ρ) ((eIf_ok t).trans ?_) rfl rfl⟩
    rw [decide_eq_true (by omega), if_pos rfl]
    refine e2_ok (eV_ok rfl) (eV_ok rfl) rfl rfl ?_
    have : atI ns (k : Int) = some ns[k] := by
      unfold atI ixN
      rw [if_pos (by omega), if_pos (by omega)]
      show ns[(k : Int).toNat]? = _
      rw [Int.toNat_natCast]; exact List.getElem?_eq_getElem h
    simp [ixF, this]
  · refine ⟨335 * k + 153, sAsg_ok (o := .val (.int (335 * k + 153))) (ρ1 := ρ) ((eIf_ok t).trans ?_) rfl rfl⟩
    rw [decide_eq_false (by omega), if_neg (by simp)]
    exact e2_ok (e2_ok (a := .val (.int 335)) rfl (eV_ok rfl) rfl rfl (mulF_ok 10 40 (by decide) (by omega))) (b := .val (.int 153)) rfl rfl rfl rfl
theorem own_run (s k : Slot) (cell : Int) : ∃ a : Int, sAsg 2 3 (e2 (e2 (eB [(eB [(eV 2)] absF)] intF) (e2 (e2 (eC (.int 10)) (eC (.int 60)) powF) (eC (.int 5)) powF) modF) (eB [(e2 (eB [(eV 2)] absF) (e2 (eC (.int 10)) (eC (.int 18)) powF) geF)] intF) mulF) [s, k, some (false, .int cell), none, none] = .ok .nx [s, k, some (false, .int cell), some (false, .int a), none] ∧ 0 ≤ a := by
  let ρ : DEnv := [s, k, some (false, .int cell), none, none]
  let ab : Int := if cell < 0 then -cell else cell
  have h1 : eB [(eV 2)] absF ρ = .ok (.val (.int ab)) ρ := eB_ok (eA_cons (eV_ok rfl) eA_nil) rfl rfl
  have h2 : eB [(eB [(eV 2)] absF)] intF ρ = .ok (.val (.int ab)) ρ := eB_ok (eA_cons h1 eA_nil) rfl rfl
  have h3 : e2 (e2 (eC (.int 10)) (eC (.int 60)) powF) (eC (.int 5)) powF ρ = .ok (.val (.int BIG)) ρ := e2_ok (e2_ok (a := .val (.int 10)) rfl (b := .val (.int 60)) rfl rfl rfl pw1) (b := .val (.int 5)) rfl rfl rfl pw2
  have h4 : modF (.int ab) (.int BIG) = some (.val (.int (ab % BIG))) := modF_ok big_pos
  have h5 := e2_ok h2 h3 rfl rfl h4
  have h6 : e2 (eB [(eV 2)] absF) (e2 (eC (.int 10)) (eC (.int 18)) powF) geF ρ = .ok (.val (.bl (decide (T18 ≤ ab)))) ρ := e2_ok h1 (e2_ok (a := .val (.int 10)) rfl (b := .val (.int 18)) rfl rfl rfl pw3) rfl rfl rfl
  have h7 : eB [(e2 (eB [(eV 2)] absF) (e2 (eC (.int 10)) (eC (.int 18)) powF) geF)] intF ρ = .ok (.val (.int (if decide (T18 ≤ ab) = true then 1 else 0))) ρ := eB_ok (eA_cons h6 eA_nil) rfl rfl
  have q0 : 0 ≤ ab % BIG := Int.emod_nonneg _ (by have := big_pos; omega)
  have q1 : ab % BIG < BIG := Int.emod_lt_of_pos _ big_pos
  have q2 := big_lt
  have n1 : (ab % BIG).natAbs < 2 ^ 1000 := by omega
  have n2 : (if decide (T18 ≤ ab) = true then (1 : Int) else 0).natAbs < 2 ^ 1 := by split <;> decide
  refine ⟨ab % BIG * (if decide (T18 ≤ ab) = true then 1 else 0), sAsg_ok (e2_ok h5 h7 rfl rfl (mulF_ok 1000 1 n1 n2)) rfl rfl, ?_⟩
  split
  · omega
  · omega
theorem pot_run (ns : List Int) (k : Nat) (hk : k < 2 ^ 30) : ∃ d rest, m_law_pot [some (false, .scr ns), some (false, .int k), none, none, none] = .ok (.rt (.own d)) rest ∧ Pot 0 d := by
  obtain ⟨cell, e1⟩ := cell_run ns k hk
  obtain ⟨a, e2', ha⟩ := own_run (some (false, .scr ns)) (some (false, .int k)) cell
  let sm : Int := cell % 2305843009213693951
  have s0 : 0 ≤ sm := Int.emod_nonneg _ (by decide)
  have s1 : sm < 2305843009213693951 := Int.emod_lt_of_pos _ (by decide)
  let ρ : DEnv := [some (false, .scr ns), some (false, .int k), some (false, .int cell), some (false, .int a), some (false, .int sm)]
  have e3 : sAsg 2 4 (e2 (eB [(eV 2)] intF) (eC (.int 2305843009213693951)) modF) [some (false, .scr ns), some (false, .int k), some (false, .int cell), some (false, .int a), none] = .ok .nx ρ :=
    sAsg_ok (o := .val (.int sm)) (ρ1 := [some (false, .scr ns), some (false, .int k), some (false, .int cell), some (false, .int a), none]) (e2_ok (eB_ok (eA_cons (eV_ok rfl) eA_nil) rfl rfl) (b := .val (.int 2305843009213693951)) rfl rfl rfl rfl) rfl rfl
  have kn : ((k : Nat) : Int).natAbs < 2 ^ 40 := by omega
  have f1 := mulF_ok (i := sm) (j := 72005) 70 20 (by omega) (by decide)
  have f2 := mulF_ok (i := 7331) (j := (k : Int)) 20 40 (by decide) kn
  have f3 := mulF_ok (i := 7331 * (k : Int)) (j := (k : Int)) (20 + 40) 40 (nab_mul (by decide) kn) kn
  let bb : Int := (sm * 72005 + 7331 * k * k + 167) % 2305843009213693921
  have b0 : 0 ≤ bb := Int.emod_nonneg _ (by decide)
  have b1 : bb < 2305843009213693921 := Int.emod_lt_of_pos _ (by decide)
  have e4 : e2 (eB [(e2 (e2 (e2 (eV 4) (eC (.int 72005)) mulF) (e2 (e2 (eC (.int 7331)) (eV 1) mulF) (eV 1) mulF) addF) (eC (.int 167)) addF)] intF) (eC (.int 2305843009213693921)) modF ρ = .ok (.val (.int bb)) ρ :=
    e2_ok (eB_ok (eA_cons (e2_ok (e2_ok (e2_ok (eV_ok rfl) (b := .val (.int 72005)) rfl rfl rfl f1) (e2_ok (e2_ok (a := .val (.int 7331)) rfl (eV_ok rfl) rfl rfl f2) (eV_ok rfl) rfl rfl f3) rfl rfl rfl) (b := .val (.int 167)) rfl rfl rfl rfl) eA_nil) rfl rfl) (b := .val (.int 2305843009213693921)) rfl rfl rfl rfl
  have e5 : sRet 2 (eLst [(eV 3), (e2 (eB [(e2 (e2 (e2 (eV 4) (eC (.int 72005)) mulF) (e2 (e2 (eC (.int 7331)) (eV 1) mulF) (eV 1) mulF) addF) (eC (.int 167)) addF)] intF) (eC (.int 2305843009213693921)) modF), (eC (.int 0))]) ρ = .ok (.rt (.own (.lst [.int a, .int bb, .int 0]))) ρ :=
    sRet_ok (eLst_ok (eA_cons (eV_ok rfl) (eA_cons e4 (eA_cons (o := .val (.int 0)) rfl eA_nil))) rfl (Nat.le_of_ble_eq_true rfl)) rfl
  refine ⟨.lst [.int a, .int bb, .int 0], ρ, (sSeq_nx e1).trans ((sSeq_nx e2').trans ((sSeq_nx e3).trans e5)), a, bb, 0, rfl, ha, b0, ?_, by omega, by omega⟩
  exact Nat.lt_of_lt_of_le (show bb.natAbs < 2 ^ 70 by omega) (Nat.pow_le_pow_right (by decide) (by decide))
theorem cells_run (ns : List Int) (L : Nat) (hL : 1 ≤ L ∧ L ≤ 100) (hn : ns.length < 2 ^ 20) : ∃ n : Int, 1 ≤ n ∧ n ≤ L ∧ m_law_cells [some (false, .scr ns), some (false, .int L)] = .ok (.rt (.own (.lst (rgD 0 n)))) [some (false, .scr ns), some (false, .int L)] := by
  let ρ : DEnv := [some (false, .scr ns), some (false, .int L)]
  let l : Int := ns.length
  let mn : Int := if l < L then l else L
  let mx : Int := if mn > 1 then mn else 1
  have h1 : eB [(eV 1), (eB [(eV 0)] lenF)] minF ρ = .ok (.val (.int mn)) ρ := eB_ok (eA_cons (eV_ok rfl) (eA_cons (eB_ok (eA_cons (eV_ok rfl) eA_nil) rfl rfl) eA_nil)) rfl rfl
  have h2 : eB [(eC (.int 1)), (eB [(eV 1), (eB [(eV 0)] lenF)] minF)] maxF ρ = .ok (.val (.int mx)) ρ := eB_ok (eA_cons (o := .val (.int 1)) rfl (eA_cons h1 eA_nil)) rfl rfl
  have m1 : mn ≤ L := by show (if l < L then l else L) ≤ L; split <;> omega
  have m2 : 1 ≤ mx ∧ mx ≤ L := by show 1 ≤ (if mn > 1 then mn else 1) ∧ (if mn > 1 then mn else 1) ≤ L; split <;> omega
  have h3 : eLRg (eB [(eC (.int 1)), (eB [(eV 1), (eB [(eV 0)] lenF)] minF)] maxF) ρ = .ok (.own (.lst (rgD 0 mx))) ρ := by
    have h62 : (2 : Int) ^ 62 = 4611686018427387904 := by rfl
    show (nrm _ ρ).bind _ = _
    rw [nrm_ok h2, R.bind_ok]
    show (if mx ≤ 16777216 ∧ -(2 ^ 62) ≤ mx then R.ok (Opd.own (.lst (rgD 0 mx))) ρ else R.bad) = _
    rw [if_pos ⟨by omega, by rw [h62]; omega⟩]
  exact ⟨mx, m2.1, m2.2, sRet_ok h3 rfl⟩
end K02

set_option Elab.async false
set_option linter.all false
set_option maxRecDepth 100000
set_option maxHeartbeats 1000000
set_option exponentiation.threshold 10000
namespace K02
open PySem PySem.Spec L2 DL
open PyProof.Rows hiding St
theorem take_call {N : Nat} {p : D} (hp : Pot N p) (hN : N + 1 < 2 ^ 900) {f : M Opd} {n : Int} (hn : 0 < n) (hn2 : n.natAbs < 2 ^ 60) (tl : DEnv) (hf : ∀ p, f (some (true, p) :: tl) = .ok (.val (.int n)) (some (true, p) :: tl)) :
    ∃ r p', eCall 2 5 m_law_take [(eV 0), f] (some (true, p) :: tl) = .ok (.val (.int r)) (some (true, p') :: tl) ∧ 0 ≤ r ∧ r < n ∧ Pot (N + 1) p' := by
  obtain ⟨r, p', rest, e, r0, r1, hp'⟩ := take_run hp hN hn hn2
  refine ⟨r, p', ?_, r0, r1, hp'⟩
  refine eCall_ok (eA_cons (eV_ok rfl) (eA_cons (hf p) eA_nil)) ?_
  simp [nrmO, callM, argsS, argS, ownIx, apart, e, finC, backD]
theorem split_at' {α : Type} {xs : List α} {i : Nat} (h : i < xs.length) : ∃ A x B, xs = A ++ x :: B ∧ A.length = i := by
  refine ⟨xs.take i, xs[i], xs.drop (i + 1), ?_, by rw [List.length_take]; omega⟩
  rw [List.getElem_cons_drop, List.take_append_drop]
abbrev someB : M Fl := (sExpr (eMut "list" 4 [(eMut "list" 3 [(eCall 2 5 m_law_take [(eV 0), (eB [(eV 3)] lenF)])] popAtF)] appF))
theorem some_step {α : Type} (g : α → D) {N : Nat} {p many : D} {ps : DL.Slot} (hp : Pot N p) (hN : N + 1 < 2 ^ 900) (R F : List α) (h0 : 0 < R.length) (h1 : R.length < 2 ^ 20) (hF : F.length < 2 ^ 20) (x5 : DL.Slot) :
    ∃ p' A x B, R = A ++ x :: B ∧ someB [some (true, p), ps, some (false, many), some (true, .lst (R.map g)), some (true, .lst (F.map g)), x5] = .ok .nx [some (true, p'), ps, some (false, many), some (true, .lst ((A ++ B).map g)), some (true, .lst ((F ++ [x]).map g)), x5] ∧ Pot (N + 1) p' := by
  let tl : DEnv := [ps, some (false, many), some (true, .lst (R.map g)), some (true, .lst (F.map g)), x5]
  have hf : ∀ p, eB [(eV 3)] lenF (some (true, p) :: tl) = .ok (.val (.int (R.length : Int))) (some (true, p) :: tl) := fun p => by
    have e : lenF [.lst (R.map g)] = some (.val (.int (R.length : Int))) := by show some (Opd.val (.int ((R.map g).length : Int))) = _; rw [List.length_map]
    exact eB_ok (eA_cons (eV_ok rfl) eA_nil) rfl e
  obtain ⟨r, p', e, r0, r1, hp'⟩ := take_call hp hN (n := (R.length : Int)) (by omega) (by omega) tl hf
  obtain ⟨A, x, B, rfl, hA⟩ := split_at' (xs := R) (i := r.toNat) (by omega)
  refine ⟨p', A, x, B, rfl, ?_, hp'⟩
  have hpop : popAtF (.lst ((A ++ x :: B).map g)) [.int r] = some (.lst ((A ++ B).map g), g x) := by
    rw [List.map_append, List.map_cons, List.map_append]
    refine pop_at (by rw [List.length_map]; omega) ?_
    rw [List.length_map]
    have : A.length ≤ (A ++ x :: B).length := by simp
    omega
  have happ : appF (.lst (F.map g)) [g x] = some (.lst ((F ++ [x]).map g), .non) := by
    show (if (F.map g).length < 16777216 then some (D.lst (F.map g ++ [g x]), D.non) else none) = _
    rw [if_pos (by rw [List.length_map]; omega), List.map_append]; rfl
  have i1 : eMut "list" 3 [(eCall 2 5 m_law_take [(eV 0), (eB [(eV 3)] lenF)])] popAtF (some (true, p) :: tl) = .ok (.val (g x)) [some (true, p'), ps, some (false, many), some (true, .lst ((A ++ B).map g)), some (true, .lst (F.map g)), x5] :=
    eMut_ok (T := "list") (i := 3) (d := .lst ((A ++ x :: B).map g)) (d' := .lst ((A ++ x :: B).map g)) (ρ2 := some (true, p') :: tl) rfl rfl (eA_cons e eA_nil) rfl rfl hpop
  have i2 : eMut "list" 4 [(eMut "list" 3 [(eCall 2 5 m_law_take [(eV 0), (eB [(eV 3)] lenF)])] popAtF)] appF (some (true, p) :: tl) = .ok (.val .non) [some (true, p'), ps, some (false, many), some (true, .lst ((A ++ B).map g)), some (true, .lst ((F ++ [x]).map g)), x5] :=
    eMut_ok (T := "list") (i := 4) (d := .lst (F.map g)) (d' := .lst (F.map g)) (ρ2 := [some (true, p'), ps, some (false, many), some (true, .lst ((A ++ B).map g)), some (true, .lst (F.map g)), x5]) rfl rfl (eA_cons i1 eA_nil) rfl rfl happ
  exact sExpr_ok i2
theorem some_loop {α : Type} (g : α → D) {many : D} {ps : DL.Slot} : ∀ (ks : List Nat) {N : Nat} {p : D}, Pot N p → N + ks.length < 2 ^ 900 → ∀ (R F : List α), ks.length ≤ R.length → R.length < 2 ^ 20 → F.length + ks.length < 2 ^ 20 → ∀ x5 : DL.Slot,
    ∃ (p' : D) (P R' : List α) (y5 : DL.Slot), P.length = ks.length ∧ (P ++ R').Perm R ∧ loopF (tgN 3 5) someB (ks.map fun k => D.int (0 + (k : Nat))) [some (true, p), ps, some (false, many), some (true, .lst (R.map g)), some (true, .lst (F.map g)), x5] =
      .ok .nx [some (true, p'), ps, some (false, many), some (true, .lst (R'.map g)), some (true, .lst ((F ++ P).map g)), y5] ∧ Pot (N + ks.length) p'
  | [], N, p, hp, _, R, F, _, _, _, x5 => ⟨p, [], R, x5, rfl, List.Perm.refl _, by rw [List.append_nil]; rfl, hp⟩
  | k :: ks, N, p, hp, hN, R, F, hR, h1, hF, x5 => by
    rw [List.length_cons] at hN hR hF
    obtain ⟨p1, A, x, B, rfl, e1, hp1⟩ := some_step g (ps := ps) (many := many) hp (by omega) R F (by omega) h1 (by omega) (some (false, .int (0 + (k : Nat))))
    have lR : (A ++ x :: B).length = (A ++ B).length + 1 := by simp; omega
    obtain ⟨p2, P, R', y5, l2, pm, e2, hp2⟩ := some_loop g (ps := ps) (many := many) ks hp1 (by omega) (A ++ B) (F ++ [x]) (by omega) (by omega) (by rw [List.length_append, List.length_singleton]; omega) (some (false, .int (0 + (k : Nat))))
    refine ⟨p2, x :: P, R', y5, by rw [List.length_cons, List.length_cons, l2], ?_, ?_, by rw [List.length_cons]; exact (by omega : N + 1 + ks.length = N + (ks.length + 1)) ▸ hp2⟩
    · rw [List.cons_append]
      exact (pm.cons x).trans List.perm_middle.symm
    · rw [List.map_cons]
      refine loop_cons (ρ1 := [some (true, p), ps, some (false, many), some (true, .lst ((A ++ x :: B).map g)), some (true, .lst (F.map g)), some (false, .int (0 + (k : Nat)))]) ?_ e1 ?_
      · cases x5 <;> rfl
      · have e : F ++ x :: P = F ++ [x] ++ P := by simp
        rw [e]; exact e2
/-- so many unlike ones of a pool -/
theorem some_run {α : Type} (g : α → D) {N : Nat} {p : D} (hp : Pot N p) (b : Bool) (pool : List α) (n : Nat) (hN : N + n < 2 ^ 900) (hn : n ≤ pool.length) (hl : pool.length < 2 ^ 20) :
    ∃ (p' : D) (P R' : List α) (rest : DEnv), P.length = n ∧ (P ++ R').Perm pool ∧ m_law_some [some (true, p), some (b, .lst (pool.map g)), some (false, .int n), none, none, none] = .ok (.rt (.own (.lst (P.map g)))) (some (true, p') :: some (b, .lst (pool.map g)) :: rest) ∧ Pot (N + n) p' := by
  obtain ⟨p', P, R', y5, l, pm, e, hp'⟩ := some_loop g (ps := some (b, .lst (pool.map g))) (many := .int n) (List.range n) hp (by rw [List.length_range]; exact hN) pool [] (by rw [List.length_range]; exact hn) hl (by rw [List.length_range]; show 0 + n < _; omega) none
  rw [List.length_range] at l hp'
  rw [List.nil_append] at e
  refine ⟨p', P, R', [some (false, .int n), some (true, .lst (R'.map g)), none, y5], l, pm, ?_, hp'⟩
  let ρ0 : DEnv := [some (true, p), some (b, .lst (pool.map g)), some (false, .int n), none, none, none]
  let ρ1 : DEnv := [some (true, p), some (b, .lst (pool.map g)), some (false, .int n), some (true, .lst (pool.map g)), some (true, .lst []), none]
  have a1 : sPar 3 3 4 (eB [(eV 1)] listF) (eLst []) ρ0 = .ok .nx ρ1 := rfl
  have it : iRng [(eV 2)] ρ1 = .ok (rngL 0 n) ρ1 := by
    have b : n < 2 ^ 30 := by omega
    have := iRng_ok (fs := [(eV 2)]) (ρ := ρ1) (eA_cons (eV_ok rfl) eA_nil) (j := (n : Int)) rfl (small62 b).1 (small62 b).2
    rw [Int.toNat_natCast] at this
    exact this
  exact (sSeq_nx a1).trans ((sSeq_nx (sFor_ok it e)).trans rfl)
end K02

set_option Elab.async false
set_option linter.all false
set_option maxRecDepth 100000
set_option maxHeartbeats 1000000
set_option exponentiation.threshold 10000
namespace DL
open PySem PySem.Spec L2
open PyProof.Rows hiding St
theorem call_mix {np nN : Nat} {m : M Fl} {fs : List (M Opd)} {ρ ρ1 ρa : DEnv} {os : List Opd} (h : eA fs ρ = .ok os ρ1) (ha : argsS os ρ1 = some ρa) (hn : os.length = np) (hp : apart os ρ1 = true) {r : R Fl} (hm : m (startD nN ρa) = r) : eCall np nN m fs ρ = finC os ρ1 r := by
  refine eCall_ok h ?_
  unfold callM
  rw [ha]
  dsimp only
  rw [if_pos ⟨hn, hp⟩, hm]
end DL
namespace K02
open PySem PySem.Spec L2 DL
open PyProof.Rows hiding St
def poolS : List Str := ["a", "b", "c", "d", "e", "place", "talk", "near", "alike", "zzzzzzzz", "open", "close", "x", "y"]
theorem pool_nd : poolS.Nodup := by decide +kernel
theorem pool_len : poolS.length = 14 := by rfl
def namesL : List (M Opd) := [(eC (.str "a")), (eC (.str "b")), (eC (.str "c")), (eC (.str "d")), (eC (.str "e")), (eC (.str "place")), (eC (.str "talk")), (eC (.str "near")), (eC (.str "alike")), (eC (.str "zzzzzzzz")), (eC (.str "open")), (eC (.str "close")), (eC (.str "x")), (eC (.str "y"))]
theorem names_a1 (p : D) (n : Int) : sAsg 2 2 (eLst namesL) [some (true, p), some (false, .int n), none] = .ok .nx [some (true, p), some (false, .int n), some (true, .lst (poolS.map .str))] := by kernel_rfl
/-- so many unlike names -/
theorem names_run {N : Nat} {p : D} (hp : Pot N p) (n : Nat) (hN : N + n < 2 ^ 900) (hn : n ≤ 14) :
    ∃ (p' : D) (P : List Str) (rest : DEnv), P.length = n ∧ P.Nodup ∧ (∀ s ∈ P, s ∈ poolS) ∧ m_law_names [some (true, p), some (false, .int n), none] = .ok (.rt (.own (.lst (P.map .str)))) (some (true, p') :: rest) ∧ Pot (N + n) p' := by
  obtain ⟨p', P, R', rest, l, pm, e, hp'⟩ := some_run D.str hp true poolS n hN (by rw [pool_len]; exact hn) (by rw [pool_len]; omega)
  have nd : (P ++ R').Nodup := pm.nodup_iff.mpr pool_nd
  have a1 := names_a1 p n
  have hm : ∀ s ∈ P, s ∈ poolS := fun s hs => pm.mem_iff.mp (List.mem_append_left _ hs)
  have hnd := (List.nodup_append.mp nd).1
  clear nd pm
  generalize hPL : D.lst (poolS.map .str) = PL at a1 e
  have c : eCall 3 6 m_law_some [(eV 0), (eV 2), (eV 1)] [some (true, p), some (false, .int n), some (true, PL)] = .ok (.own (.lst (P.map .str))) [some (true, p'), some (false, .int n), some (true, PL)] := by
    exact (call_mix (eA_cons (eV_ok rfl) (eA_cons (eV_ok rfl) (eA_cons (eV_ok rfl) eA_nil))) rfl rfl rfl e).trans rfl
  exact ⟨p', P, _, l, hnd, hm, (sSeq_nx a1).trans (sRet_ok c rfl), hp'⟩
end K02

set_option Elab.async false
set_option linter.all false
set_option maxRecDepth 100000
set_option maxHeartbeats 1000000
namespace K02
open PySem PySem.Spec L2 DL
open PyProof.Rows hiding St
def okSB (s : Str) : Bool := PyData.strOk s && decide (s.length ≤ 10000)
theorem okS_of {s : Str} (h : okSB s = true) : okS s := by
  obtain ⟨a, b⟩ := Bool.and_eq_true_iff.mp h
  exact ⟨a, of_decide_eq_true b⟩
/-- place_in, reckoned -/
def lineOk (l : Str) (o : Option Pl) : Bool := match m_place_in [some (false, .str l), none, none, none, none], o with
  | .ok (.rt (.val (.tup [.str n, .int x, .int y]))) _, some p => decide (n = p.1) && decide (x = p.2.1) && decide (y = p.2.2) && okSB n
  | .ok (.rt (.val .non)) _, none => true
  | _, _ => false
theorem placeR_of {l : Str} {o : Option Pl} (h : lineOk l o = true) : PlaceR l o := by
  unfold lineOk at h
  split at h
  · rename_i n x y ρ p e
    obtain ⟨h, h4⟩ := Bool.and_eq_true_iff.mp h
    obtain ⟨h, h3⟩ := Bool.and_eq_true_iff.mp h
    obtain ⟨h1, h2⟩ := Bool.and_eq_true_iff.mp h
    have h1 := of_decide_eq_true h1
    have h2 := of_decide_eq_true h2
    have h3 := of_decide_eq_true h3
    subst h1 h2 h3
    exact ⟨fun q hq => by cases hq; exact okS_of h4, ρ, e⟩
  · rename_i ρ e
    exact ⟨fun q hq => (nomatch hq), ρ, e⟩
  · cases h
/-- a line, with what it tells -/
structure RowR (l : Str) (o : Option Pl) : Prop where
  pl : PlaceR l o
  ok : PyData.strOk l = true
  len : l.length ≤ 100
  nl : 10 ∉ l.cps.toList
def rowB (l : Str) (o : Option Pl) : Bool := lineOk l o && (PyData.strOk l && (decide (l.length ≤ 100) && decide (10 ∉ l.cps.toList)))
theorem rowR_of {l : Str} {o : Option Pl} (h : rowB l o = true) : RowR l o := by
  obtain ⟨h1, h⟩ := Bool.and_eq_true_iff.mp h
  obtain ⟨h2, h⟩ := Bool.and_eq_true_iff.mp h
  obtain ⟨h3, h4⟩ := Bool.and_eq_true_iff.mp h
  exact ⟨placeR_of h1, h2, of_decide_eq_true h3, of_decide_eq_true h4⟩
theorem strOk_iff {s : Str} : PyData.strOk s = true ↔ ∀ c ∈ s.cps.toList, c < 0x110000 := by
  unfold PyData.strOk
  rw [← Array.all_toList, List.all_eq_true]
  simp
theorem mem_joinL {y : List Nat} {c : Nat} : ∀ {ps : List (List Nat)}, c ∈ TL.joinL y ps → c ∈ y ∨ ∃ p ∈ ps, c ∈ p
  | [], h => by simp [TL.joinL] at h
  | [p], h => .inr ⟨p, List.mem_cons_self, by simpa [TL.joinL] using h⟩
  | p :: q :: r, h => by
    have h : c ∈ p ++ (y ++ TL.joinL y (q :: r)) := h
    rcases List.mem_append.mp h with h | h
    · exact .inr ⟨p, List.mem_cons_self, h⟩
    rcases List.mem_append.mp h with h | h
    · exact .inl h
    · rcases mem_joinL h with h | ⟨z, hz, h⟩
      · exact .inl h
      · exact .inr ⟨z, List.mem_cons_of_mem _ hz, h⟩
theorem len_joinL {y : List Nat} : ∀ {ps : List (List Nat)}, (TL.joinL y ps).length ≤ (ps.map List.length).sum + ps.length * y.length
  | [] => by simp [TL.joinL]
  | [p] => by simp [TL.joinL]
  | p :: q :: r => by
    have ih := len_joinL (y := y) (ps := q :: r)
    have e : (TL.joinL y (p :: q :: r)).length = p.length + y.length + (TL.joinL y (q :: r)).length := by simp [TL.joinL]; omega
    rw [e, List.map_cons, List.sum_cons, List.length_cons, Nat.succ_mul]
    omega
theorem Paired.all {α β : Type} {F : α → β → Prop} {P : α → Prop} (h : ∀ x y, F x y → P x) : ∀ {xs : List α} {ys : List β}, Paired F xs ys → ∀ x ∈ xs, P x
  | [], [], .nil, x, hx => nomatch hx
  | a :: xs, b :: ys, .cons h1 h2, x, hx => by
    rcases List.mem_cons.mp hx with rfl | hx
    · exact h _ _ h1
    · exact Paired.all h h2 x hx
theorem Paired.imp' {α β : Type} {F F' : α → β → Prop} (h : ∀ x y, F x y → F' x y) : ∀ {xs : List α} {ys : List β}, Paired F xs ys → Paired F' xs ys
  | [], [], .nil => .nil
  | _ :: _, _ :: _, .cons h1 h2 => .cons (h _ _ h1) (Paired.imp' h h2)
theorem sum_le {rows : List Str} (h : ∀ l ∈ rows, l.length ≤ 100) : (rows.map (·.length)).sum ≤ rows.length * 100 := by
  induction rows with
  | nil => simp
  | cons l ls ih =>
    have := ih fun x hx => h x (List.mem_cons_of_mem _ hx)
    have := h l List.mem_cons_self
    rw [List.map_cons, List.sum_cons, List.length_cons, Nat.succ_mul]; omega
theorem taken_of {rows : List Str} {os : List (Option Pl)} (h : Paired RowR rows os) (hne : rows ≠ []) (hl : rows.length ≤ 50) : TakenR (Txt.join "\n" rows) (goS [] 1 os) := by
  have e10 : ("\n" : Str).cps.toList = [10] := by decide +kernel
  have sp : Txt.split (Txt.join "\n" rows) "\n" = rows := TL.split_join (s := 10) (S := []) e10 (by decide +kernel) hne (Paired.all (fun x y r => r.nl) h)
  have tj : (Txt.join "\n" rows).cps.toList = TL.joinL [10] (rows.map fun l => l.cps.toList) := by
    have := TL.tl_join ("\n" : Str) rows
    rw [TL.join_eq, ← e10]
    exact this
  refine ⟨⟨strOk_iff.mpr fun c hc => ?_, ?_⟩, os, by rw [sp]; exact Paired.imp' (fun x y r => r.pl) h, rfl⟩
  · rw [tj] at hc
    rcases mem_joinL hc with hc | ⟨p, hp, hc⟩
    · rw [List.mem_singleton.mp hc]; decide
    · obtain ⟨l, hl, rfl⟩ := List.mem_map.mp hp
      exact strOk_iff.mp (Paired.all (P := fun l => PyData.strOk l = true) (fun x y r => r.ok) h l hl) c hc
  · have e : (Txt.join "\n" rows).length = (TL.joinL [10] (rows.map fun l => l.cps.toList)).length := by rw [← tj]; simp [Str.length]
    have b := len_joinL (y := [10]) (ps := rows.map fun l => l.cps.toList)
    have s : ((rows.map fun l => l.cps.toList).map List.length).sum = (rows.map (·.length)).sum := by
      rw [List.map_map]; congr 1
    rw [s, List.length_map, List.length_singleton] at b
    have := sum_le (rows := rows) (Paired.all (fun x y r => r.len) h)
    rw [e]; omega
theorem sum_ok {rows : List Str} {os : List (Option Pl)} (h : Paired RowR rows os) (hl : rows.length ≤ 50) : (rows.map (·.length)).sum + rows.length * 1 ≤ 16777216 := by
  have := sum_le (rows := rows) (Paired.all (fun x y r => r.len) h)
  omega
def lineP (n x y : Str) : Str := "place " ++ n ++ " " ++ x ++ " " ++ y
end K02

set_option Elab.async false
set_option linter.all false
set_option maxRecDepth 100000
set_option maxHeartbeats 1000000
set_option exponentiation.threshold 10000
namespace K02
open PySem PySem.Spec L2 DL
open PyProof.Rows hiding St
abbrev ptS0 : M Fl := (sPar 3 5 6 (e2 (eCall 2 5 m_law_take [(eV 0), (e2 (e2 (eC (.int 2)) (eV 2) mulF) (eC (.int 1)) addF)]) (eV 2) subF) (e2 (eCall 2 5 m_law_take [(eV 0), (e2 (e2 (eC (.int 2)) (eV 2) mulF) (eC (.int 1)) addF)]) (eV 2) subF))
abbrev ptS1 : M Fl := (sIf (tV (e2 (eV 3) (eC (.int 1)) eqF)) (sPar 3 5 6 (e2 (eLst [(e1 (eV 2) negF), (eC (.int 0)), (eV 2), (eC (.int 1))]) (e2 (eB [(eV 5)] intF) (eC (.int 4)) modF) ixF) (e2 (eLst [(e1 (eV 2) negF), (eC (.int 0)), (eV 2), (eC (.int 2))]) (e2 (eB [(eV 6)] intF) (eC (.int 4)) modF) ixF)) sNil)
abbrev ptS2 : M Fl := (sIf (tAnd' (tV (e2 (eV 3) (eC (.int 2)) eqF)) (tV (e2 (eV 4) (eLst []) neF))) (sSeq (sAsg 3 7 (eCall 2 2 m_law_of [(eV 0), (eV 4)])) (sSeq (sAsg 3 8 (eLst [(eTup [(e2 (eV 7) (eC (.int 1)) ixF), (e2 (eV 7) (eC (.int 0)) ixF)]), (eTup [(e1 (e2 (eV 7) (eC (.int 0)) ixF) negF), (e2 (eV 7) (eC (.int 1)) ixF)]), (eTup [(e2 (eV 7) (eC (.int 0)) ixF), (e1 (e2 (eV 7) (eC (.int 1)) ixF) negF)]), (eTup [(e1 (e2 (eV 7) (eC (.int 1)) ixF) negF), (e1 (e2 (eV 7) (eC (.int 0)) ixF) negF)]), (eTup [(eV 5), (e2 (eV 7) (eC (.int 1)) ixF)])])) (sAsgT (tgA 2 [(tgN 3 5), (tgN 3 6)]) (eCall 2 2 m_law_of [(eV 0), (eV 8)])))) sNil)
abbrev ptS3 : M Fl := (sAsg 3 9 (eLst [(eTup [(eV 5), (eV 6)]), (eTup [(e2 (eB [(eV 5)] intF) (eC (.int 2)) divF), (eV 6)]), (eTup [(eV 5), (e2 (eB [(eV 6)] intF) (eC (.int 2)) divF)]), (eTup [(e2 (eB [(eV 4)] lenF) (eV 2) subF), (eV 2)]), (eTup [(eV 2), (e2 (eB [(eV 4)] lenF) (eV 2) subF)])]))
abbrev ptS4 : M Fl := (sExpr (eMut "list" 4 [(e2 (eLc (iOf anyK (e2 (eV 9) (eLst [(eTup [(e1 (eV 2) negF), (e1 (eV 2) negF)]), (eTup [(eV 2), (eV 2)]), (eTup [(eC (.int 0)), (eC (.int 0))]), (eTup [(eC (.int 1)), (eC (.int 0))])]) addF)) [10] (tgN 3 10) (tV (e2 (eV 10) (eV 4) notInF)) (eV 10)) (eC (.int 0)) ixF)] appF))
abbrev ptL : M Opd := (eLc (iOf anyK (e2 (eV 9) (eLst [(eTup [(e1 (eV 2) negF), (e1 (eV 2) negF)]), (eTup [(eV 2), (eV 2)]), (eTup [(eC (.int 0)), (eC (.int 0))]), (eTup [(eC (.int 1)), (eC (.int 0))])]) addF)) [10] (tgN 3 10) (tV (e2 (eV 10) (eV 4) notInF)) (eV 10))
abbrev ptI : M (List D) := (iOf anyK (e2 (eV 9) (eLst [(eTup [(e1 (eV 2) negF), (e1 (eV 2) negF)]), (eTup [(eV 2), (eV 2)]), (eTup [(eC (.int 0)), (eC (.int 0))]), (eTup [(eC (.int 1)), (eC (.int 0))])]) addF))
abbrev ptC : M Bool := (tV (e2 (eV 10) (eV 4) notInF))
abbrev ptB : M Fl := sSeq ptS0 (sSeq ptS1 (sSeq ptS2 (sSeq ptS3 ptS4)))
abbrev ptT : M Bool := (tV (e2 (eB [(eV 4)] lenF) (eV 1) ltF))
theorem Pot.mono {N M : Nat} {d : D} (h : Pot N d) (hm : N ≤ M) : Pot M d := by
  obtain ⟨a, b, c, h0, h1, h2, h3, h4, h5⟩ := h
  exact ⟨a, b, c, h0, h1, h2, h3, h4, by omega⟩
/-- one of a list -/
theorem of_run {N : Nat} {p : D} (hp : Pot N p) (hN : N + 1 < 2 ^ 900) {b : Bool} {xs : List D} (h0 : 0 < xs.length) (h1 : xs.length < 2 ^ 60) :
    ∃ x p', m_law_of [some (true, p), some (b, .lst xs)] = .ok (.rt (.val x)) [some (true, p'), some (b, .lst xs)] ∧ x ∈ xs ∧ Pot (N + 1) p' := by
  obtain ⟨r, p', rest, e, r0, r1, hp'⟩ := take_run hp hN (n := (xs.length : Int)) (by omega) (by omega)
  obtain ⟨x, ex, hx⟩ := atI_nat r0 r1
  refine ⟨x, p', ?_, hx, hp'⟩
  have c : eCall 2 5 m_law_take [(eV 0), (eB [(eV 1)] lenF)] [some (true, p), some (b, .lst xs)] = .ok (.val (.int r)) [some (true, p'), some (b, .lst xs)] :=
    (call_mix (eA_cons (eV_ok rfl) (eA_cons (eB_ok (eA_cons (eV_ok rfl) eA_nil) rfl rfl) eA_nil)) rfl rfl rfl e).trans rfl
  refine sRet_ok (e2_ok (eV_ok rfl) c rfl rfl (o := .val x) ?_) rfl
  show (atI xs r).map Opd.val = _
  rw [ex]; rfl
def InR (far : Int) (z : Pt) : Prop := -far ≤ z.1 ∧ z.1 ≤ far ∧ -far ≤ z.2 ∧ z.2 ≤ far
def envP (p : D) (many far sort : Int) (F : List Pt) (x5 x6 x7 x8 x9 : DL.Slot) : DEnv := [some (true, p), some (false, .int many), some (false, .int far), some (false, .int sort), some (true, .lst (F.map ptD)), x5, x6, x7, x8, x9, none]
theorem len_draw {far : Int} (hf : 3 ≤ far ∧ far ≤ 25) {i : Nat} {ρ : DEnv} (h : ρ[i]? = some (some (false, .int far))) : e2 (e2 (eC (.int 2)) (eV i) mulF) (eC (.int 1)) addF ρ = .ok (.val (.int (2 * far + 1))) ρ := by
  have l : look (nrmO (.slot i)) ρ = some (.int far) := by show look (.slot i) ρ = _; unfold look; dsimp only; rw [h]
  exact e2_ok (e2_ok (a := .val (.int 2)) rfl (eV_ok h) rfl l (mulF_ok 10 10 (by decide) (by omega))) (b := .val (.int 1)) rfl rfl rfl rfl
/-- a number of the width about nought -/
theorem draw_run {N : Nat} {p : D} (hp : Pot N p) (hN : N + 1 < 2 ^ 900) {far : Int} (hf : 3 ≤ far ∧ far ≤ 25) {i : Nat} (tl : DEnv) (h : tl[i]? = some (some (false, .int far))) :
    ∃ v p', e2 (eCall 2 5 m_law_take [(eV 0), (e2 (e2 (eC (.int 2)) (eV (i + 1)) mulF) (eC (.int 1)) addF)]) (eV (i + 1)) subF (some (true, p) :: tl) = .ok (.val (.int v)) (some (true, p') :: tl) ∧ -far ≤ v ∧ v ≤ far ∧ Pot (N + 1) p' := by
  obtain ⟨r, p', e, r0, r1, hp'⟩ := take_call hp hN (n := 2 * far + 1) (by omega) (by omega) tl (fun q => len_draw hf (i := i + 1) (ρ := some (true, q) :: tl) h)
  have h' : ∀ q : D, (some (true, q) :: tl)[i + 1]? = some (some (false, .int far)) := fun q => h
  have l : look (nrmO (.slot (i + 1))) (some (true, p') :: tl) = some (.int far) := by show look (.slot (i + 1)) _ = _; unfold look; dsimp only; rw [h' p']
  exact ⟨r - far, p', e2_ok e (eV_ok (h' p')) rfl l rfl, by omega, by omega, hp'⟩
theorem stage0 {N : Nat} {p : D} (hp : Pot N p) (hN : N + 2 < 2 ^ 900) {many far sort : Int} (hf : 3 ≤ far ∧ far ≤ 25) (F : List Pt) (x5 x6 x7 x8 x9 : DL.Slot) :
    ∃ p' a b, ptS0 (envP p many far sort F x5 x6 x7 x8 x9) = .ok .nx (envP p' many far sort F (some (false, .int a)) (some (false, .int b)) x7 x8 x9) ∧ InR far (a, b) ∧ Pot (N + 2) p' := by
  obtain ⟨a, p1, e1, a0, a1, h1⟩ := draw_run hp (by omega) hf (i := 1) [some (false, .int many), some (false, .int far), some (false, .int sort), some (true, .lst (F.map ptD)), x5, x6, x7, x8, x9, none] rfl
  obtain ⟨b, p2, e2', b0, b1, h2⟩ := draw_run h1 (by omega) hf (i := 1) [some (false, .int many), some (false, .int far), some (false, .int sort), some (true, .lst (F.map ptD)), x5, x6, x7, x8, x9, none] rfl
  exact ⟨p2, a, b, sPar_ok e1 e2' rfl rfl rfl rfl, ⟨a0, a1, b0, b1⟩, h2⟩
theorem four_at {far : Int} (hf : 3 ≤ far ∧ far ≤ 25) (z v : Int) (hz : z = 1 ∨ z = 2) : ∃ r, ixF (.lst [.int (-far), .int 0, .int far, .int z]) (.int (v % 4)) = some (.val (.int r)) ∧ -far ≤ r ∧ r ≤ far := by
  have h0 := Int.emod_nonneg v (by decide : (4 : Int) ≠ 0)
  have h1 := Int.emod_lt_of_pos v (by decide : (0 : Int) < 4)
  generalize v % 4 = m at h0 h1
  obtain rfl | rfl | rfl | rfl : m = 0 ∨ m = 1 ∨ m = 2 ∨ m = 3 := by omega
  · exact ⟨_, rfl, by omega, by omega⟩
  · exact ⟨_, rfl, by omega, by omega⟩
  · exact ⟨_, rfl, by omega, by omega⟩
  · exact ⟨_, rfl, by omega, by omega⟩
theorem stage1 {p : D} {many far sort : Int} (hf : 3 ≤ far ∧ far ≤ 25) (F : List Pt) {a b : Int} (hr : InR far (a, b)) (x7 x8 x9 : DL.Slot) :
    ∃ a' b', ptS1 (envP p many far sort F (some (false, .int a)) (some (false, .int b)) x7 x8 x9) = .ok .nx (envP p many far sort F (some (false, .int a')) (some (false, .int b')) x7 x8 x9) ∧ InR far (a', b') := by
  have c : tV (e2 (eV 3) (eC (.int 1)) eqF) (envP p many far sort F (some (false, .int a)) (some (false, .int b)) x7 x8 x9) = .ok (decide (sort = 1)) (envP p many far sort F (some (false, .int a)) (some (false, .int b)) x7 x8 x9) :=
    tV_ok (e2_ok (eV_ok rfl) (b := .val (.int 1)) rfl rfl rfl eqF_int) rfl
  by_cases h : sort = 1
  · obtain ⟨r1, e1', q1, q2⟩ := four_at hf 1 a (.inl rfl)
    obtain ⟨r2, e2', q3, q4⟩ := four_at hf 2 b (.inr rfl)
    refine ⟨r1, r2, ?_, ⟨q1, q2, q3, q4⟩⟩
    refine (sIf_ok c).trans ?_
    rw [decide_eq_true h, if_pos rfl]
    have g : ∀ (i : Nat) (z v r : Int), (envP p many far sort F (some (false, .int a)) (some (false, .int b)) x7 x8 x9)[i]? = some (some (false, .int v)) → ixF (.lst [.int (-far), .int 0, .int far, .int z]) (.int (v % 4)) = some (.val (.int r)) → e2 (eLst [(e1 (eV 2) negF), (eC (.int 0)), (eV 2), (eC (.int z))]) (e2 (eB [(eV i)] intF) (eC (.int 4)) modF) ixF (envP p many far sort F (some (false, .int a)) (some (false, .int b)) x7 x8 x9) = .ok (.val (.int r)) (envP p many far sort F (some (false, .int a)) (some (false, .int b)) x7 x8 x9) := fun i z v r hi hx => by
      have l : look (nrmO (.slot i)) (envP p many far sort F (some (false, .int a)) (some (false, .int b)) x7 x8 x9) = some (.int v) := by show look (.slot i) _ = _; unfold look; dsimp only; rw [hi]
      have ls : looks [nrmO (.slot i)] (envP p many far sort F (some (false, .int a)) (some (false, .int b)) x7 x8 x9) = some [.int v] := by unfold looks; rw [l]; rfl
      refine e2_ok (a := .own (.lst [.int (-far), .int 0, .int far, .int z])) (b := .val (.int (v % 4))) (ρ1 := envP p many far sort F (some (false, .int a)) (some (false, .int b)) x7 x8 x9) ?_ (e2_ok (eB_ok (eA_cons (eV_ok hi) eA_nil) ls (o := .val (.int v)) rfl) (b := .val (.int 4)) rfl rfl rfl rfl) rfl rfl hx
      exact eLst_ok (eA_cons (e1_ok (eV_ok rfl) rfl rfl) (eA_cons (o := .val (.int 0)) rfl (eA_cons (eV_ok rfl) (eA_cons (o := .val (.int z)) rfl eA_nil)))) rfl (Nat.le_of_ble_eq_true rfl)
    exact sPar_ok (g 5 1 a r1 rfl e1') (g 6 2 b r2 rfl e2') rfl rfl rfl rfl
  · refine ⟨a, b, (sIf_ok c).trans ?_, hr⟩
    rw [decide_eq_false h, if_neg (by simp)]
    rfl
theorem mem_opts {far : Int} {opts : List Pt} (h : ∀ w ∈ opts, InR far w) {x : D} (hx : x ∈ opts.map ptD) : ∃ w, x = ptD w ∧ w ∈ opts ∧ InR far w := by
  obtain ⟨w, hw, rfl⟩ := List.mem_map.mp hx
  exact ⟨w, rfl, hw, h w hw⟩
theorem stage2 {N : Nat} {p : D} (hp : Pot N p) (hN : N + 2 < 2 ^ 900) {many far sort : Int} {F : List Pt} (hl : F.length ≤ 5) (hF : ∀ z ∈ F, InR far z) {a b : Int} (hr : InR far (a, b)) (x7 x8 x9 : DL.Slot) :
    ∃ p' a' b' y7 y8, ptS2 (envP p many far sort F (some (false, .int a)) (some (false, .int b)) x7 x8 x9) = .ok .nx (envP p' many far sort F (some (false, .int a')) (some (false, .int b')) y7 y8 x9) ∧ InR far (a', b') ∧ Pot (N + 2) p' := by
  have c1 : tV (e2 (eV 3) (eC (.int 2)) eqF) (envP p many far sort F (some (false, .int a)) (some (false, .int b)) x7 x8 x9) = .ok (decide (sort = 2)) (envP p many far sort F (some (false, .int a)) (some (false, .int b)) x7 x8 x9) :=
    tV_ok (e2_ok (eV_ok rfl) (b := .val (.int 2)) rfl rfl rfl eqF_int) rfl
  have c2 : tV (e2 (eV 4) (eLst []) neF) (envP p many far sort F (some (false, .int a)) (some (false, .int b)) x7 x8 x9) = .ok (!decide (F = [])) (envP p many far sort F (some (false, .int a)) (some (false, .int b)) x7 x8 x9) :=
    tV_ok (e2_ok (eV_ok rfl) (b := .own (.lst [])) rfl rfl rfl (neF_nil F)) rfl
  by_cases h : sort = 2
  · rw [decide_eq_true h] at c1
    by_cases h2 : F = []
    · rw [decide_eq_true h2] at c2
      refine ⟨p, a, b, x7, x8, (sIf_ok ((tAnd_t c1).trans c2)).trans rfl, hr, hp.mono (by omega)⟩
    · rw [decide_eq_false h2] at c2
      have hpos : 0 < (F.map ptD).length := by rw [List.length_map]; exact List.length_pos_iff.mpr h2
      obtain ⟨x, p1, e1', hx, hp1⟩ := of_run hp (by omega) (b := true) (xs := F.map ptD) hpos (by rw [List.length_map]; omega)
      obtain ⟨⟨u, v⟩, rfl, hz, z1, z2, z3, z4⟩ := mem_opts hF hx
      let opts : List Pt := [(v, u), (-u, v), (u, -v), (-v, -u), (a, v)]
      have ho : ∀ w ∈ opts, InR far w := by
        intro w hw
        obtain ⟨r1, r2, r3, r4⟩ := hr
        simp only [opts, List.mem_cons, List.not_mem_nil, or_false] at hw
        dsimp only at z1 z2 z3 z4 r1 r2 r3 r4
        rcases hw with rfl | rfl | rfl | rfl | rfl <;> exact ⟨by dsimp only; omega, by dsimp only; omega, by dsimp only; omega, by dsimp only; omega⟩
      obtain ⟨x', p2, e2', hx', hp2⟩ := of_run hp1 (by omega) (b := true) (xs := opts.map ptD) (show 0 < 5 by decide) (Nat.lt_of_lt_of_le (show 5 < 6 by decide) (by decide))
      obtain ⟨⟨a', b'⟩, rfl, _, hr'⟩ := mem_opts ho hx'
      refine ⟨p2, a', b', some (false, ptD (u, v)), some (true, .lst (opts.map ptD)), (sIf_ok ((tAnd_t c1).trans c2)).trans ?_, hr', hp2⟩
      have k1 : eCall 2 2 m_law_of [(eV 0), (eV 4)] (envP p many far sort F (some (false, .int a)) (some (false, .int b)) x7 x8 x9) = .ok (.val (ptD (u, v))) (envP p1 many far sort F (some (false, .int a)) (some (false, .int b)) x7 x8 x9) :=
        (call_mix (eA_cons (eV_ok rfl) (eA_cons (eV_ok rfl) eA_nil)) rfl rfl rfl e1').trans rfl
      have k2 : eCall 2 2 m_law_of [(eV 0), (eV 8)] (envP p1 many far sort F (some (false, .int a)) (some (false, .int b)) (some (false, ptD (u, v))) (some (true, .lst (opts.map ptD))) x9) = .ok (.val (ptD (a', b'))) (envP p2 many far sort F (some (false, .int a)) (some (false, .int b)) (some (false, ptD (u, v))) (some (true, .lst (opts.map ptD))) x9) :=
        (call_mix (eA_cons (eV_ok rfl) (eA_cons (eV_ok rfl) eA_nil)) rfl rfl rfl e2').trans rfl
      have i0 : e2 (eV 7) (eC (.int 0)) ixF (envP p1 many far sort F (some (false, .int a)) (some (false, .int b)) (some (false, ptD (u, v))) x8 x9) = .ok (.val (.int u)) (envP p1 many far sort F (some (false, .int a)) (some (false, .int b)) (some (false, ptD (u, v))) x8 x9) := e2_ok (eV_ok rfl) (b := .val (.int 0)) rfl rfl rfl rfl
      have i1 : e2 (eV 7) (eC (.int 1)) ixF (envP p1 many far sort F (some (false, .int a)) (some (false, .int b)) (some (false, ptD (u, v))) x8 x9) = .ok (.val (.int v)) (envP p1 many far sort F (some (false, .int a)) (some (false, .int b)) (some (false, ptD (u, v))) x8 x9) := e2_ok (eV_ok rfl) (b := .val (.int 1)) rfl rfl rfl rfl
      have n0 := e1_ok (F := negF) i0 rfl (o := .val (.int (-u))) rfl
      have n1 := e1_ok (F := negF) i1 rfl (o := .val (.int (-v))) rfl
      have two : ∀ {f g : M Opd} {ρ : DEnv} {i j : Int}, f ρ = .ok (.val (.int i)) ρ → g ρ = .ok (.val (.int j)) ρ → eTup [f, g] ρ = .ok (.val (ptD (i, j))) ρ := fun h1 h2 => eTup_ok (eA_cons h1 (eA_cons h2 eA_nil)) rfl (Nat.le_of_ble_eq_true rfl)
      have t5 : eTup [(eV 5), (e2 (eV 7) (eC (.int 1)) ixF)] (envP p1 many far sort F (some (false, .int a)) (some (false, .int b)) (some (false, ptD (u, v))) x8 x9) = .ok (.val (ptD (a, v))) (envP p1 many far sort F (some (false, .int a)) (some (false, .int b)) (some (false, ptD (u, v))) x8 x9) :=
        eTup_ok (eA_cons (eV_ok rfl) (eA_cons i1 eA_nil)) rfl (Nat.le_of_ble_eq_true rfl)
      have k3 := eLst_ok (eA_cons (two i1 i0) (eA_cons (two n0 i1) (eA_cons (two i0 n1) (eA_cons (two n1 n0) (eA_cons t5 eA_nil))))) rfl (Nat.le_of_ble_eq_true rfl)
      exact (sSeq_nx (sAsg_ok k1 rfl rfl)).trans ((sSeq_nx (sAsg_ok k3 rfl rfl)).trans (sAsgT_ok k2 rfl rfl))
  · rw [decide_eq_false h] at c1
    refine ⟨p, a, b, x7, x8, (sIf_ok (tAnd_f c1)).trans rfl, hr, hp.mono (by omega)⟩
def tries (far a b : Int) (n : Int) : List Pt := [(a, b), (a / 2, b), (a, b / 2), (n - far, far), (far, n - far)]
theorem stage3 {p : D} {many far sort : Int} (F : List Pt) (a b : Int) (x7 x8 x9 : DL.Slot) :
    ptS3 (envP p many far sort F (some (false, .int a)) (some (false, .int b)) x7 x8 x9) = .ok .nx (envP p many far sort F (some (false, .int a)) (some (false, .int b)) x7 x8 (some (true, .lst ((tries far a b ((F.map ptD).length : Nat)).map ptD)))) := by
  let ρ := envP p many far sort F (some (false, .int a)) (some (false, .int b)) x7 x8 x9
  have v5 : eV 5 ρ = .ok (.slot 5) ρ := eV_ok rfl
  have v6 : eV 6 ρ = .ok (.slot 6) ρ := eV_ok rfl
  have v2 : eV 2 ρ = .ok (.slot 2) ρ := eV_ok rfl
  have dv : ∀ i : Int, divF (.int i) (.int 2) = some (.val (.int (i / 2))) := fun i => by show (if 0 < (2 : Int) ∧ (2 : Int).natAbs.log2 < 9000 then some (Opd.val (D.int (i / 2))) else none) = _; exact if_pos ⟨by decide, by decide⟩
  have d5 : e2 (eB [(eV 5)] intF) (eC (.int 2)) divF ρ = .ok (.val (.int (a / 2))) ρ := e2_ok (eB_ok (eA_cons v5 eA_nil) rfl rfl) (b := .val (.int 2)) rfl rfl rfl (dv a)
  have d6 : e2 (eB [(eV 6)] intF) (eC (.int 2)) divF ρ = .ok (.val (.int (b / 2))) ρ := e2_ok (eB_ok (eA_cons v6 eA_nil) rfl rfl) (b := .val (.int 2)) rfl rfl rfl (dv b)
  have ln : e2 (eB [(eV 4)] lenF) (eV 2) subF ρ = .ok (.val (.int (((F.map ptD).length : Nat) - far))) ρ := e2_ok (eB_ok (eA_cons (eV_ok rfl) eA_nil) rfl rfl) (eV_ok rfl) rfl rfl rfl
  have k := eLst_ok (eA_cons (eTup_ok (eA_cons v5 (eA_cons v6 eA_nil)) rfl (Nat.le_of_ble_eq_true rfl)) (eA_cons (eTup_ok (eA_cons d5 (eA_cons v6 eA_nil)) rfl (Nat.le_of_ble_eq_true rfl)) (eA_cons (eTup_ok (eA_cons v5 (eA_cons d6 eA_nil)) rfl (Nat.le_of_ble_eq_true rfl)) (eA_cons (eTup_ok (eA_cons ln (eA_cons v2 eA_nil)) rfl (Nat.le_of_ble_eq_true rfl)) (eA_cons (eTup_ok (eA_cons v2 (eA_cons ln eA_nil)) rfl (Nat.le_of_ble_eq_true rfl)) eA_nil))))) rfl (Nat.le_of_ble_eq_true rfl)
  exact sAsg_ok k rfl rfl
theorem len_nodup {α : Type} [DecidableEq α] : ∀ {l m : List α}, l.Nodup → (∀ x ∈ l, x ∈ m) → l.length ≤ m.length
  | [], m, _, _ => Nat.zero_le _
  | x :: l, m, nd, h => by
    have hx := h x List.mem_cons_self
    have nd' := List.nodup_cons.mp nd
    have := len_nodup (l := l) (m := m.erase x) nd'.2 fun y hy => (List.mem_erase_of_ne (fun e => nd'.1 (by rw [← e]; exact hy))).mpr (h y (List.mem_cons_of_mem _ hy))
    rw [List.length_erase_of_mem hx] at this
    have := List.length_pos_of_mem hx
    rw [List.length_cons]; omega
def cands (far a b n : Int) : List Pt := tries far a b n ++ [(-far, -far), (far, far), (0, 0), (1, 0)]
theorem cand_free {far a b : Int} (hf : 3 ≤ far ∧ far ≤ 25) (F : List Pt) (hl : F.length ≤ 5) : ∃ z ∈ cands far a b F.length, z ∉ F := by
  apply Classical.byContradiction
  intro hno
  have hall : ∀ z ∈ cands far a b F.length, z ∈ F := fun z hz => Classical.byContradiction fun h => hno ⟨z, hz, h⟩
  have hd : ([((F.length : Int) - far, far), (far, (F.length : Int) - far), (-far, -far), (far, far), (0, 0), (1, 0)] : List Pt).Nodup := by
    simp only [List.nodup_cons, List.mem_cons, List.not_mem_nil, or_false, not_or, Prod.mk.injEq, not_and, List.nodup_nil, and_true, not_false_eq_true]
    refine ⟨⟨?_, ?_, ?_, ?_, ?_⟩, ⟨?_, ?_, ?_, ?_⟩, ⟨?_, ?_, ?_⟩, ⟨?_, ?_⟩, ?_⟩ <;> intros <;> omega
  have := len_nodup hd (m := F) fun z hz => hall z (by
    simp only [List.mem_cons, List.not_mem_nil, or_false] at hz
    simp only [cands, tries, List.mem_append, List.mem_cons, List.not_mem_nil, or_false]
    rcases hz with h | h | h | h | h | h <;> simp [h])
  simp at this
  omega
theorem cand_in {far a b : Int} (hf : 3 ≤ far ∧ far ≤ 25) (hr : InR far (a, b)) {n : Int} (hn : 0 ≤ n ∧ n ≤ 5) : ∀ z ∈ cands far a b n, InR far z := by
  intro z hz
  obtain ⟨r1, r2, r3, r4⟩ := hr
  dsimp only at r1 r2 r3 r4
  simp only [cands, tries, List.mem_append, List.mem_cons, List.not_mem_nil, or_false] at hz
  rcases hz with (rfl | rfl | rfl | rfl | rfl) | (rfl | rfl | rfl | rfl) <;> exact ⟨by dsimp only; omega, by dsimp only; omega, by dsimp only; omega, by dsimp only; omega⟩
def freeP (F : List Pt) : D → Bool
  | .tup [.int x, .int y] => !decide ((x, y) ∈ F)
  | _ => false
theorem filt_pts (F : List Pt) : ∀ cs : List Pt, (cs.map ptD).filter (freeP F) = (cs.filter fun z => !decide (z ∈ F)).map ptD
  | [] => rfl
  | z :: cs => by
    rw [List.map_cons, List.filter_cons, List.filter_cons, filt_pts F cs]
    have : freeP F (ptD z) = !decide (z ∈ F) := rfl
    rw [this]
    split <;> rfl
theorem atI_head {α : Type} (x : α) (xs : List α) : atI (x :: xs) 0 = some x := by
  unfold atI ixN
  rw [if_pos (by decide), if_pos (by rw [List.length_cons]; omega)]
  rfl
theorem stage4 {p : D} {many far sort : Int} (hf : 3 ≤ far ∧ far ≤ 25) {F : List Pt} (hl : F.length ≤ 5) {a b : Int} (hr : InR far (a, b)) (x7 x8 : DL.Slot) :
    ∃ z y9, ptS4 (envP p many far sort F (some (false, .int a)) (some (false, .int b)) x7 x8 (some (true, .lst ((tries far a b ((F.map ptD).length : Nat)).map ptD)))) = .ok .nx (envP p many far sort (F ++ [z]) (some (false, .int a)) (some (false, .int b)) x7 x8 y9) ∧ z ∉ F ∧ InR far z := by
  rw [List.length_map]
  obtain ⟨z0, hz0, hz0'⟩ := cand_free (a := a) (b := b) hf F hl
  obtain ⟨z, rest, hzr⟩ : ∃ z rest, (cands far a b F.length).filter (fun z => !decide (z ∈ F)) = z :: rest := by
    cases h : (cands far a b F.length).filter (fun z => !decide (z ∈ F)) with
    | nil => exact absurd (List.mem_filter.mpr ⟨hz0, by simp [hz0']⟩ : z0 ∈ (cands far a b F.length).filter (fun z => !decide (z ∈ F))) (by rw [h]; exact List.not_mem_nil)
    | cons z rest => exact ⟨z, rest, rfl⟩
  have hz : z ∈ (cands far a b F.length).filter (fun z => !decide (z ∈ F)) := by rw [hzr]; exact List.mem_cons_self
  obtain ⟨hz1, hz2⟩ := List.mem_filter.mp hz
  generalize hT : (D.lst ((tries far a b (F.length : Nat)).map ptD)) = TT
  let ρ := envP p many far sort F (some (false, .int a)) (some (false, .int b)) x7 x8 (some (true, TT))
  have hI : ptI ρ = .ok ((cands far a b F.length).map ptD) ρ := by
    have ng : e1 (eV 2) negF ρ = .ok (.val (.int (-far))) ρ := e1_ok (eV_ok rfl) rfl rfl
    have k := eLst_ok (eA_cons (eTup_ok (eA_cons ng (eA_cons ng eA_nil)) rfl (Nat.le_of_ble_eq_true rfl)) (eA_cons (eTup_ok (eA_cons (eV_ok (i := 2) rfl) (eA_cons (eV_ok (i := 2) rfl) eA_nil)) rfl (Nat.le_of_ble_eq_true rfl)) (eA_cons (eTup_ok (fs := [eC (.int 0), eC (.int 0)]) (ds := [.int 0, .int 0]) rfl rfl (Nat.le_of_ble_eq_true rfl)) (eA_cons (eTup_ok (fs := [eC (.int 1), eC (.int 0)]) (ds := [.int 1, .int 0]) rfl rfl (Nat.le_of_ble_eq_true rfl)) (eA_nil (ρ := ρ)))))) rfl (Nat.le_of_ble_eq_true rfl)
    have v9 : eV 9 ρ = .ok (.slot 9) ρ := eV_ok rfl
    have e := e2_ok v9 k rfl rfl (F2 := addF) (o := .own (.lst ((cands far a b F.length).map ptD))) (by subst hT; rfl)
    show (e2 (eV 9) _ addF ρ).bind (itO anyK) = _
    rw [e]; rfl
  have hL : ptL ρ = .ok (.own (.lst (((cands far a b F.length).map ptD).filter (freeP F)))) ρ := by
    have := eLc_filter (vs := [10]) (t := tgN 3 10) (c := ptC) (f := eV 10) (ρw := ρ) (freeP F) id hI rfl (by rw [List.length_map]; exact (Nat.le_of_ble_eq_true rfl)) fun d hd => by
      obtain ⟨w, hw, rfl⟩ := List.mem_map.mp hd
      let ρ2 : DEnv := [some (true, p), some (false, .int many), some (false, .int far), some (false, .int sort), some (true, .lst (F.map ptD)), some (false, .int a), some (false, .int b), x7, x8, some (true, TT), some (false, ptD w)]
      refine ⟨ρ2, ρ2, rfl, ?_, fun _ => rfl, fun _ => ⟨.slot 10, ρ2, ρ2, rfl, rfl, rfl⟩⟩
      exact tV_ok (e2_ok (eV_ok rfl) (eV_ok rfl) rfl rfl (notIn_pts w F)) rfl
    rw [List.map_id] at this
    exact this
  rw [filt_pts, hzr] at hL
  refine ⟨z, some (true, TT), ?_, fun h => by simp [h] at hz2, cand_in hf hr ⟨by omega, by omega⟩ z hz1⟩
  have e := e2_ok hL (g := eC (.int 0)) (b := .val (.int 0)) rfl rfl rfl (F2 := ixF) (o := .val (ptD z)) (by show (atI (ptD z :: rest.map ptD) 0).map Opd.val = _; rw [atI_head]; rfl)
  have ap : appF (.lst (F.map ptD)) [ptD z] = some (.lst ((F ++ [z]).map ptD), .non) := by
    show (if _ then _ else _) = _
    rw [if_pos (by rw [List.length_map]; omega), List.map_append]
    rfl
  exact sExpr_ok (eMut_ok (ρ := ρ) (i := 4) rfl rfl (eA_cons e eA_nil) rfl rfl ap)
end K02

set_option Elab.async false
set_option linter.all false
set_option maxRecDepth 100000
set_option maxHeartbeats 1000000
set_option exponentiation.threshold 10000
namespace K02
open PySem PySem.Spec L2 DL
open PyProof.Rows hiding St
theorem pt_step {N : Nat} {p : D} (hp : Pot N p) (hN : N + 4 < 2 ^ 900) {many far sort : Int} (hf : 3 ≤ far ∧ far ≤ 25) {F : List Pt} (hl : F.length ≤ 5) (hr : ∀ z ∈ F, InR far z) (x5 x6 x7 x8 x9 : DL.Slot) :
    ∃ p' z y5 y6 y7 y8 y9, ptB (envP p many far sort F x5 x6 x7 x8 x9) = .ok .nx (envP p' many far sort (F ++ [z]) y5 y6 y7 y8 y9) ∧ z ∉ F ∧ InR far z ∧ Pot (N + 4) p' := by
  obtain ⟨p1, a, b, e0, r0, h1⟩ := stage0 (many := many) (sort := sort) hp (by omega) hf F x5 x6 x7 x8 x9
  obtain ⟨a1, b1, e1', r1⟩ := stage1 (p := p1) (many := many) (sort := sort) hf F r0 x7 x8 x9
  obtain ⟨p2, a2, b2, y7, y8, e2', r2, h2⟩ := stage2 (many := many) (sort := sort) h1 (by omega) hl hr r1 x7 x8 x9
  have e3 := stage3 (p := p2) (many := many) (far := far) (sort := sort) F a2 b2 y7 y8 x9
  obtain ⟨z, y9, e4, hz, rz⟩ := stage4 (p := p2) (many := many) (sort := sort) hf hl r2 y7 y8
  exact ⟨p2, z, _, _, _, _, _, (sSeq_nx e0).trans ((sSeq_nx e1').trans ((sSeq_nx e2').trans ((sSeq_nx e3).trans e4))), hz, rz, h2⟩
theorem pts_loop {many far sort : Int} (hf : 3 ≤ far ∧ far ≤ 25) : ∀ (k m : Nat) {N : Nat} {p : D} (_ : Pot N p) (_ : N + 4 * k < 2 ^ 900) (F : List Pt) (_ : ((F.length + k : Nat) : Int) = many) (_ : F.length + k ≤ 6) (_ : F.Nodup) (_ : ∀ z ∈ F, InR far z) (_ : k < m) (x5 x6 x7 x8 x9 : DL.Slot),
    ∃ p' F' y5 y6 y7 y8 y9, loopW ptT ptB m (envP p many far sort F x5 x6 x7 x8 x9) = .ok .nx (envP p' many far sort F' y5 y6 y7 y8 y9) ∧ F'.length = F.length + k ∧ F'.Nodup ∧ (∀ z ∈ F', InR far z) ∧ Pot (N + 4 * k) p'
  | k, 0, N, p, _, _, F, _, _, _, _, hm, x5, x6, x7, x8, x9 => absurd hm (Nat.not_lt_zero _)
  | 0, m + 1, N, p, hp, hN, F, hl, h6, nd, hr, hm, x5, x6, x7, x8, x9 => by
    refine ⟨p, F, x5, x6, x7, x8, x9, loopW_end (ρ1 := envP p many far sort F x5 x6 x7 x8 x9) ?_, rfl, nd, hr, hp.mono (by omega)⟩
    have e : ltF (.int ((F.map ptD).length : Nat)) (.int many) = some (.val (.bl false)) := by
      show some (Opd.val (.bl (decide (((F.map ptD).length : Int) < many)))) = _
      rw [List.length_map, decide_eq_false (by omega)]
    exact tV_ok (e2_ok (eB_ok (eA_cons (eV_ok rfl) eA_nil) rfl rfl) (eV_ok rfl) rfl rfl e) rfl
  | k + 1, m + 1, N, p, hp, hN, F, hl, h6, nd, hr, hm, x5, x6, x7, x8, x9 => by
    obtain ⟨p1, z, y5, y6, y7, y8, y9, e, hz, rz, h1⟩ := pt_step (many := many) (sort := sort) hp (by omega) hf (F := F) (by omega) hr x5 x6 x7 x8 x9
    have nd' : (F ++ [z]).Nodup := List.nodup_append.mpr ⟨nd, by simp, fun a ha b hb => by rw [List.mem_singleton.mp hb]; exact fun h => hz (h ▸ ha)⟩
    have hr' : ∀ w ∈ F ++ [z], InR far w := fun w hw => by
      rcases List.mem_append.mp hw with h | h
      · exact hr w h
      · rw [List.mem_singleton.mp h]; exact rz
    have l' : (F ++ [z]).length = F.length + 1 := by simp
    obtain ⟨p2, F', z5, z6, z7, z8, z9, e', q1, q2, q3, h2⟩ := pts_loop (many := many) (sort := sort) hf k m h1 (by omega) (F ++ [z]) (by rw [l']; omega) (by rw [l']; omega) nd' hr' (by omega) y5 y6 y7 y8 y9
    refine ⟨p2, F', z5, z6, z7, z8, z9, (loopW_on (ρ1 := envP p many far sort F x5 x6 x7 x8 x9) ?_ e).trans e', by rw [q1, l']; omega, q2, q3, h2.mono (by omega)⟩
    have e : ltF (.int ((F.map ptD).length : Nat)) (.int many) = some (.val (.bl true)) := by
      show some (Opd.val (.bl (decide (((F.map ptD).length : Int) < many)))) = _
      rw [List.length_map, decide_eq_true (by omega)]
    exact tV_ok (e2_ok (eB_ok (eA_cons (eV_ok rfl) eA_nil) rfl rfl) (eV_ok rfl) rfl rfl e) rfl
theorem fuel_big : 100 < fuel := by show (100 : Nat) < 4294967296; decide
theorem points_run {N : Nat} {p : D} (hp : Pot N p) (hN : N + 30 < 2 ^ 900) {far : Int} (hf : 3 ≤ far ∧ far ≤ 25) {n : Nat} (hn : n ≤ 6) :
    ∃ (p' : D) (F : List Pt) (rest : DEnv), m_law_points [some (true, p), some (false, .int n), some (false, .int far), none, none, none, none, none, none, none, none] = .ok (.rt (.own (.lst (F.map ptD)))) (some (true, p') :: rest) ∧ F.length = n ∧ F.Nodup ∧ (∀ z ∈ F, InR far z) ∧ Pot (N + 30) p' := by
  obtain ⟨sort, p1, e, s0, s1, h1⟩ := take_call hp (by omega) (f := eC (.int 4)) (n := 4) (by decide) (by decide) [some (false, .int n), some (false, .int far), none, none, none, none, none, none, none, none] (fun _ => rfl)
  have hfu := fuel_big
  obtain ⟨p2, F, y5, y6, y7, y8, y9, e', q1, q2, q3, h2⟩ := pts_loop (many := (n : Int)) (sort := sort) hf n fuel h1 (by omega) [] (by simp) (by simpa using hn) (by simp) (fun z hz => absurd hz (List.not_mem_nil)) (by omega) none none none none none
  refine ⟨p2, F, [some (false, .int n), some (false, .int far), some (false, .int sort), none, y5, y6, y7, y8, y9, none], ?_, by simpa using q1, q2, q3, h2.mono (by omega)⟩
  have a : sPar 3 3 4 (eCall 2 5 m_law_take [(eV 0), (eC (.int 4))]) (eLst []) [some (true, p), some (false, .int n), some (false, .int far), none, none, none, none, none, none, none, none] = .ok .nx (envP p1 n far sort [] none none none none none) :=
    sPar_ok (o2 := .own (.lst [])) e rfl rfl rfl rfl rfl
  exact (sSeq_nx a).trans ((sSeq_nx e').trans (sRet_ok (eV_ok rfl) rfl))
end K02

set_option Elab.async false
set_option linter.all false
set_option maxRecDepth 100000
set_option maxHeartbeats 1000000
set_option exponentiation.threshold 10000
namespace K02
open PySem PySem.Spec L2 DL
open PyProof.Rows hiding St
structure TownOK (far : Int) (T : List Pl) : Prop where
  l2 : 2 ≤ T.length
  l6 : T.length ≤ 6
  nd : (T.map (·.1)).Nodup
  pd : (T.map (·.2)).Nodup
  pool : ∀ q ∈ T, q.1 ∈ poolS
  inr : ∀ q ∈ T, InR far q.2
def zpD : D → D
  | .tup [.str n, .tup [.int x, .int y]] => .tup [.str n, .int x, .int y]
  | _ => .non
theorem zip_D : ∀ (P : List Str) (F : List Pt), zipD (P.map D.str) (F.map ptD) = (P.zip F).map fun z => .tup [.str z.1, ptD z.2]
  | [], _ => rfl
  | _ :: _, [] => rfl
  | n :: P, z :: F => congrArg (D.tup [.str n, ptD z] :: ·) (zip_D P F)
theorem town_runG {N : Nat} {p : D} (hp : Pot N p) (hN : N + 50 < 2 ^ 900) {far : Int} (hf : 3 ≤ far ∧ far ≤ 25) {lo hi : Nat} (hb : 2 ≤ lo ∧ lo ≤ hi ∧ hi ≤ 6) :
    ∃ (p' : D) (T : List Pl) (rest : DEnv), m_law_town [some (true, p), some (false, .int lo), some (false, .int hi), some (false, .int far), none, none, none] = .ok (.rt (.own (.lst (T.map plD)))) (some (true, p') :: rest) ∧ TownOK far T ∧ Pot (N + 50) p' := by
  obtain ⟨r, p1, e, r0, r1, h1⟩ := take_call hp (by omega) (f := (e2 (e2 (eV 2) (eV 1) subF) (eC (.int 1)) addF)) (n := ((hi : Int) - lo + 1)) (by omega) (by omega) [some (false, .int lo), some (false, .int hi), some (false, .int far), none, none, none] (fun _ => e2_ok (e2_ok (eV_ok rfl) (eV_ok rfl) rfl rfl rfl) (b := .val (.int 1)) rfl rfl rfl rfl)
  obtain ⟨n, hn⟩ : ∃ n : Nat, (lo : Int) + r = n := ⟨((lo : Int) + r).toNat, by omega⟩
  have n2 : 2 ≤ n ∧ n ≤ 6 := by omega
  have a : sAsg 4 4 (e2 (eV 1) (eCall 2 5 m_law_take [(eV 0), (e2 (e2 (eV 2) (eV 1) subF) (eC (.int 1)) addF)]) addF) [some (true, p), some (false, .int lo), some (false, .int hi), some (false, .int far), none, none, none] = .ok .nx [some (true, p1), some (false, .int lo), some (false, .int hi), some (false, .int far), some (false, .int n), none, none] :=
    sAsg_ok (e2_ok (eV_ok rfl) e rfl rfl (o := .val (.int n)) (by rw [← hn]; rfl)) rfl rfl
  obtain ⟨p2, P, rest2, l2, nd, pm, e2', h2⟩ := names_run h1 n (by omega) (by omega)
  obtain ⟨p3, F, rest3, e3, l3, nd3, r3, h3⟩ := points_run h2 (by omega) hf (n := n) (by omega)
  generalize hPD : D.lst (P.map .str) = PD at e2'
  have e2'' : m_law_names (startD 3 [some (true, p1), some (false, .int n)]) = .ok (.rt (.own PD)) (some (true, p2) :: rest2) := e2'
  have c2 : eCall 2 3 m_law_names [(eV 0), (eV 4)] [some (true, p1), some (false, .int lo), some (false, .int hi), some (false, .int far), some (false, .int n), none, none] = .ok (.own PD) [some (true, p2), some (false, .int lo), some (false, .int hi), some (false, .int far), some (false, .int n), none, none] :=
    (call_mix (np := 2) (nN := 3) (m := m_law_names) (eA_cons (eV_ok rfl) (eA_cons (eV_ok rfl) eA_nil)) rfl rfl rfl e2'').trans rfl
  subst hPD
  have e3'' : m_law_points (startD 11 [some (true, p2), some (false, .int n), some (false, .int far)]) = .ok (.rt (.own (.lst (F.map ptD)))) (some (true, p3) :: rest3) := e3
  have c3 : eCall 3 11 m_law_points [(eV 0), (eV 4), (eV 3)] [some (true, p2), some (false, .int lo), some (false, .int hi), some (false, .int far), some (false, .int n), none, none] = .ok (.own (.lst (F.map ptD))) [some (true, p3), some (false, .int lo), some (false, .int hi), some (false, .int far), some (false, .int n), none, none] :=
    (call_mix (np := 3) (nN := 11) (m := m_law_points) (eA_cons (eV_ok rfl) (eA_cons (eV_ok rfl) (eA_cons (eV_ok rfl) eA_nil))) rfl rfl rfl e3'').trans rfl
  have hI : iZp [(eCall 2 3 m_law_names [(eV 0), (eV 4)]), (eCall 3 11 m_law_points [(eV 0), (eV 4), (eV 3)])] [some (true, p1), some (false, .int lo), some (false, .int hi), some (false, .int far), some (false, .int n), none, none] = .ok ((P.zip F).map fun z => .tup [.str z.1, ptD z.2]) [some (true, p3), some (false, .int lo), some (false, .int hi), some (false, .int far), some (false, .int n), none, none] := by
    show (eA _ _).bind _ = _
    rw [eA_cons c2 (eA_cons c3 eA_nil), R.bind_ok]
    show R.ok (zipD (P.map .str) (F.map ptD)) _ = _
    rw [zip_D]
  have lz : (P.zip F).length = n := by rw [List.length_zip, l2, l3]; omega
  have hl : ((P.zip F).map fun z => D.tup [.str z.1, ptD z.2]).length ≤ 16777216 := by
    rw [List.length_map, lz]; exact Nat.le_trans n2.2 (Nat.le_of_ble_eq_true rfl)
  have hL := eLc_map (vs := [5, 6]) (t := (tgA 2 [(tgN 4 5), (tgN 4 6)])) (f := (e2 (eTup [(eV 5)]) (eV 6) addF)) (ρw := [some (true, p3), some (false, .int lo), some (false, .int hi), some (false, .int far), some (false, .int n), none, none]) zpD hI rfl hl fun d hd => by
    obtain ⟨⟨s, x, y⟩, hz, rfl⟩ := List.mem_map.mp hd
    let ρ2 : DEnv := [some (true, p3), some (false, .int lo), some (false, .int hi), some (false, .int far), some (false, .int n), some (false, .str s), some (false, ptD (x, y))]
    refine ⟨ρ2, .val (.tup [.str s, .int x, .int y]), ρ2, ρ2, rfl, ?_, rfl, rfl⟩
    exact e2_ok (eTup_ok (eA_cons (eV_ok rfl) eA_nil) rfl (Nat.le_of_ble_eq_true rfl)) (eV_ok rfl) rfl rfl rfl
  have em : ((P.zip F).map fun z => D.tup [.str z.1, ptD z.2]).map zpD = (P.zip F).map plD := by
    rw [List.map_map]
    refine List.map_congr_left fun z _ => ?_
    rfl
  rw [em] at hL
  refine ⟨p3, P.zip F, _, (sSeq_nx a).trans (sRet_ok hL rfl), ⟨by omega, by omega, ?_, ?_, ?_, ?_⟩, h3.mono (by omega)⟩
  · rw [List.map_fst_zip (by omega)]; exact nd
  · rw [List.map_snd_zip (by omega)]; exact nd3
  · intro q hq; exact pm _ (List.of_mem_zip (a := q.1) (b := q.2) hq).1
  · intro q hq; exact r3 _ (List.of_mem_zip (a := q.1) (b := q.2) hq).2
theorem town_run {N : Nat} {p : D} (hp : Pot N p) (hN : N + 50 < 2 ^ 900) {far : Int} (hf : 3 ≤ far ∧ far ≤ 25) :
    ∃ (p' : D) (T : List Pl) (rest : DEnv), m_law_town [some (true, p), some (false, .int 2), some (false, .int 6), some (false, .int far), none, none, none] = .ok (.rt (.own (.lst (T.map plD)))) (some (true, p') :: rest) ∧ TownOK far T ∧ Pot (N + 50) p' :=
  town_runG hp hN hf (lo := 2) (hi := 6) ⟨by decide, by decide, by decide⟩
end K02

set_option Elab.async false
set_option linter.all false
set_option maxRecDepth 100000
set_option maxHeartbeats 1000000
set_option exponentiation.threshold 10000
namespace K02
open PySem PySem.Spec L2 DL
open PyProof.Rows hiding St
def sI (x : Int) : Str := toString x
def okc (s : Str) : Bool := s.cps.toList.all (fun c => decide (c ≠ 10) && (decide (c ≠ 32) && decide (c < 0x110000))) && decide (s.length ≤ 10)
theorem okc_of {s : Str} (h : okc s = true) : (∀ c ∈ s.cps.toList, c ≠ 10 ∧ c ≠ 32 ∧ c < 0x110000) ∧ s.length ≤ 10 := by
  obtain ⟨h1, h2⟩ := Bool.and_eq_true_iff.mp h
  refine ⟨fun c hc => ?_, of_decide_eq_true h2⟩
  have := List.all_eq_true.mp h1 c hc
  obtain ⟨a, b⟩ := Bool.and_eq_true_iff.mp this
  obtain ⟨b, c⟩ := Bool.and_eq_true_iff.mp b
  exact ⟨of_decide_eq_true a, of_decide_eq_true b, of_decide_eq_true c⟩
theorem okc_okS {s : Str} (h : okc s = true) : okS s := by
  obtain ⟨h1, h2⟩ := okc_of h
  exact ⟨strOk_iff.mpr fun c hc => (h1 c hc).2.2, by omega⟩
def intOkB (x : Int) : Bool := okc (sI x) && match m_integer_in [some (false, .str (sI x)), none, none, none] with
  | .ok (.rt (.val (.int y))) _ => decide (y = x)
  | _ => false
theorem int_all : ((List.range 41).all fun k => intOkB ((k : Int) - 20)) = true := by decide +kernel
theorem int_ok {x : Int} (h : -20 ≤ x ∧ x ≤ 20) : okc (sI x) = true ∧ IntR (sI x) (.int x) := by
  have := List.all_eq_true.mp int_all (x + 20).toNat (List.mem_range.mpr (by omega))
  have e : (((x + 20).toNat : Nat) : Int) - 20 = x := by omega
  rw [e] at this
  obtain ⟨h1, h2⟩ := Bool.and_eq_true_iff.mp this
  refine ⟨h1, ?_⟩
  split at h2
  · rename_i y ρ e
    have := of_decide_eq_true h2
    subst this
    exact ⟨ρ, e⟩
  · cases h2
theorem pool_c : ∀ n ∈ poolS, (okc n && nameB n) = true := by decide +kernel
theorem place_c : okc "place" = true := by decide +kernel
theorem tl_line (n a b : Str) : (lineP n a b).cps.toList = ("place" : Str).cps.toList ++ ([32] ++ (n.cps.toList ++ ([32] ++ (a.cps.toList ++ ([32] ++ b.cps.toList))))) := by
  have e1 : TL.tl ("place " : Str) = TL.tl ("place" : Str) ++ [32] := by decide +kernel
  have e2 : TL.tl (" " : Str) = [32] := by decide +kernel
  show TL.tl ("place " ++ n ++ " " ++ a ++ " " ++ b) = _
  rw [TL.tl_append, TL.tl_append, TL.tl_append, TL.tl_append, TL.tl_append, e1, e2]
  simp [TL.tl]
theorem line_join (n a b : Str) : lineP n a b = Txt.join " " [("place" : Str), n, a, b] := by
  have e32 : (" " : Str).cps.toList = [32] := by decide +kernel
  refine TL.ext_tl ?_
  have tj : TL.tl (Txt.join " " [("place" : Str), n, a, b]) = TL.joinL [32] (([("place" : Str), n, a, b] : List Str).map fun l => l.cps.toList) := by
    have := TL.tl_join (" " : Str) [("place" : Str), n, a, b]
    rw [TL.join_eq, ← e32]
    exact this
  rw [tj]
  show (lineP n a b).cps.toList = _
  rw [tl_line]
  rfl
theorem line_len (n a b : Str) : (lineP n a b).length = 8 + n.length + a.length + b.length := by
  have l6 : ("place " : Str).length = 6 := by decide +kernel
  have l1 : (" " : Str).length = 1 := by decide +kernel
  unfold lineP
  rw [len_append, len_append, len_append, len_append, len_append, l6, l1]; omega
theorem row_line {n : Str} {x y : Int} (hn : n ∈ poolS) (hx : -20 ≤ x ∧ x ≤ 20) (hy : -20 ≤ y ∧ y ≤ 20) : RowR (lineP n (sI x) (sI y)) (some (n, x, y)) := by
  obtain ⟨c1, nb⟩ := Bool.and_eq_true_iff.mp (pool_c n hn)
  obtain ⟨cx, ix⟩ := int_ok hx
  obtain ⟨cy, iy⟩ := int_ok hy
  obtain ⟨f0, g0⟩ := okc_of place_c
  obtain ⟨f1, g1⟩ := okc_of c1
  obtain ⟨f2, g2⟩ := okc_of cx
  obtain ⟨f3, g3⟩ := okc_of cy
  have ch : ∀ c ∈ (lineP n (sI x) (sI y)).cps.toList, c ≠ 10 ∧ c < 0x110000 := by
    intro c hc
    rw [tl_line] at hc
    simp only [List.mem_append, List.mem_singleton] at hc
    rcases hc with h | rfl | h | rfl | h | rfl | h
    · exact ⟨(f0 c h).1, (f0 c h).2.2⟩
    · exact ⟨by decide, by decide⟩
    · exact ⟨(f1 c h).1, (f1 c h).2.2⟩
    · exact ⟨by decide, by decide⟩
    · exact ⟨(f2 c h).1, (f2 c h).2.2⟩
    · exact ⟨by decide, by decide⟩
    · exact ⟨(f3 c h).1, (f3 c h).2.2⟩
  have ll := line_len n (sI x) (sI y)
  have so : PyData.strOk (lineP n (sI x) (sI y)) = true := strOk_iff.mpr fun c hc => (ch c hc).2
  have e32 : (" " : Str).cps.toList = [32] := by decide +kernel
  have sp : Txt.split (lineP n (sI x) (sI y)) " " = [("place" : Str), n, sI x, sI y] := by
    rw [line_join]
    refine TL.split_join (s := 32) (S := []) e32 (by decide +kernel) (by simp) fun w hw => ?_
    simp only [List.mem_cons, List.not_mem_nil, or_false] at hw
    rcases hw with rfl | rfl | rfl | rfl
    · exact fun h => (f0 _ h).2.1 rfl
    · exact fun h => (f1 _ h).2.1 rfl
    · exact fun h => (f2 _ h).2.1 rfl
    · exact fun h => (f3 _ h).2.1 rfl
  have hp := place_4 (l := lineP n (sI x) (sI y)) ⟨so, by omega⟩ sp (okc_okS place_c) (okc_okS c1) ix iy rfl rfl
  have ew : placeW "place" n (.int x) (.int y) = plD (n, x, y) := if_pos ⟨rfl, nb, by show (decide _ && decide _) = true; simp [hx], by show (decide _ && decide _) = true; simp [hy]⟩
  rw [ew] at hp
  exact ⟨⟨fun q hq => by cases hq; exact okc_okS c1, hp⟩, so, by omega, fun h => (ch _ h).1 rfl⟩
/-! a town's text -/
def linesS (T : List Pl) : List Str := T.map fun q => lineP q.1 (sI q.2.1) (sI q.2.2)
def textS (T : List Pl) : Str := Txt.join "\n" (linesS T)
theorem TownOK.mono {far far' : Int} {T : List Pl} (h : TownOK far T) (hm : far ≤ far') : TownOK far' T :=
  ⟨h.l2, h.l6, h.nd, h.pd, h.pool, fun q hq => by obtain ⟨a, b, c, d⟩ := h.inr q hq; exact ⟨by omega, by omega, by omega, by omega⟩⟩
theorem rows_town : ∀ {T : List Pl}, (∀ q ∈ T, q.1 ∈ poolS) → (∀ q ∈ T, InR 20 q.2) → Paired RowR (linesS T) (T.map some)
  | [], _, _ => .nil
  | q :: T, h1, h2 => by
    obtain ⟨a, b, c, d⟩ := h2 q List.mem_cons_self
    exact .cons (row_line (h1 q List.mem_cons_self) ⟨a, b⟩ ⟨c, d⟩) (rows_town (fun z hz => h1 z (List.mem_cons_of_mem _ hz)) fun z hz => h2 z (List.mem_cons_of_mem _ hz))
theorem goS_town : ∀ (T acc : List Pl) (k : Int), ((acc ++ T).map (·.1)).Nodup → ((acc ++ T).map (·.2)).Nodup → 2 ≤ (acc ++ T).length → (acc ++ T).length ≤ 6 → goS acc k (T.map some) = .ok (acc ++ T)
  | [], acc, k, _, _, h2, _ => by
    rw [List.append_nil] at h2 ⊢
    show (if acc.length < 2 then _ else _) = _
    rw [if_neg (by omega)]
  | p :: T, acc, k, h1, h1', h2, h6 => by
    have e : acc ++ p :: T = acc ++ [p] ++ T := by simp
    have hc : canS acc p = true := by
      refine List.all_eq_true.mpr fun q hq => ?_
      rw [List.map_append] at h1 h1'
      have n1 : q.1 ≠ p.1 := (List.nodup_append.mp h1).2.2 _ (List.mem_map_of_mem hq) _ (by rw [List.map_cons]; exact List.mem_cons_self)
      have n2 : q.2 ≠ p.2 := (List.nodup_append.mp h1').2.2 _ (List.mem_map_of_mem hq) _ (by rw [List.map_cons]; exact List.mem_cons_self)
      have n2' : ¬ (q.2.1 = p.2.1 ∧ q.2.2 = p.2.2) := fun z => n2 (Prod.ext z.1 z.2)
      unfold offB
      rw [decide_eq_false n1]
      have : (decide (q.2.1 = p.2.1) && decide (q.2.2 = p.2.2)) = false := by
        rw [← Bool.not_eq_true, Bool.and_eq_true, decide_eq_true_iff, decide_eq_true_iff]; exact n2'
      rw [this]; rfl
    have hl : acc.length < 6 := by rw [List.length_append, List.length_cons] at h6; omega
    show (if acc.length = 6 ∨ canS acc p = false then _ else goS (acc ++ [p]) (k + 1) (T.map some)) = _
    rw [if_neg (fun h => h.elim (fun h => by omega) fun h => by rw [hc] at h; cases h), e]
    rw [e] at h1 h1' h2 h6
    exact goS_town T (acc ++ [p]) (k + 1) h1 h1' h2 h6
theorem town_taken {T : List Pl} (h : TownOK 20 T) : TakenR (textS T) (.ok T) := by
  have := taken_of (rows_town h.pool h.inr) (by
    intro z
    have hT := List.map_eq_nil_iff.mp z
    have := h.l2
    rw [hT] at this
    exact absurd this (by decide)) (by unfold linesS; rw [List.length_map]; have := h.l6; omega)
  rw [goS_town T [] 1 h.nd h.pd h.l2 h.l6] at this
  exact this
theorem strF_ok {x : Int} (h : x.natAbs < 2 ^ 60) : strF [.int x] = some (.val (.str (sI x))) := if_pos (Nat.lt_of_lt_of_le (log2_lt h (by decide)) (by decide))
end K02

set_option Elab.async false
set_option linter.all false
set_option maxRecDepth 100000
set_option maxHeartbeats 1000000
set_option exponentiation.threshold 10000
namespace K02
open PySem PySem.Spec L2 DL
open PyProof.Rows hiding St
theorem len_c {s : Str} (h : okc s = true) : s.length ≤ 10 := (okc_of h).2
theorem look_at {i : Nat} {fl : Bool} {d : D} {ρ : DEnv} (h : ρ[i]? = some (some (fl, d))) : look (nrmO (.slot i)) ρ = some d := by show look (.slot i) ρ = _; unfold look; dsimp only; rw [h]
theorem line_run {n : Str} {x y : Int} {ρ : DEnv} (h1 : ρ[1]? = some (some (false, .str n))) (h2 : ρ[2]? = some (some (false, .int x))) (h3 : ρ[3]? = some (some (false, .int y))) (ln : n.length ≤ 1000) (lx : (sI x).length ≤ 1000) (ly : (sI y).length ≤ 1000) (bx : x.natAbs < 2 ^ 60) (by' : y.natAbs < 2 ^ 60) :
    e2 (e2 (e2 (e2 (e2 (eC (.str "place ")) (eV 1) addF) (eC (.str " ")) addF) (eB [(eV 2)] strF) addF) (eC (.str " ")) addF) (eB [(eV 3)] strF) addF ρ = .ok (.val (.str (lineP n (sI x) (sI y)))) ρ := by
  have l6 : ("place " : Str).length = 6 := by decide +kernel
  have l1 : (" " : Str).length = 1 := by decide +kernel
  have st : ∀ {i : Nat} {z : Int}, ρ[i]? = some (some (false, .int z)) → z.natAbs < 2 ^ 60 → eB [(eV i)] strF ρ = .ok (.val (.str (sI z))) ρ := fun {i z} h hb => eB_ok (ds := [.int z]) (eA_cons (eV_ok h) eA_nil) (by unfold looks; rw [look_at h]; rfl) (strF_ok hb)
  have a1 : e2 (eC (.str "place ")) (eV 1) addF ρ = .ok (.val (.str ("place " ++ n))) ρ := e2_ok (a := .val (.str "place ")) rfl (eV_ok h1) rfl (look_at h1) (addF_str (by omega))
  have a2 : e2 (e2 (eC (.str "place ")) (eV 1) addF) (eC (.str " ")) addF ρ = .ok (.val (.str ("place " ++ n ++ " "))) ρ := e2_ok a1 (b := .val (.str " ")) rfl rfl rfl (addF_str (by rw [len_append]; omega))
  have a3 : e2 (e2 (e2 (eC (.str "place ")) (eV 1) addF) (eC (.str " ")) addF) (eB [(eV 2)] strF) addF ρ = .ok (.val (.str ("place " ++ n ++ " " ++ sI x))) ρ := e2_ok a2 (st h2 bx) rfl rfl (addF_str (by rw [len_append, len_append]; omega))
  have a4 : e2 (e2 (e2 (e2 (eC (.str "place ")) (eV 1) addF) (eC (.str " ")) addF) (eB [(eV 2)] strF) addF) (eC (.str " ")) addF ρ = .ok (.val (.str ("place " ++ n ++ " " ++ sI x ++ " "))) ρ := e2_ok a3 (b := .val (.str " ")) rfl rfl rfl (addF_str (by rw [len_append, len_append, len_append]; omega))
  exact e2_ok a4 (st h3 by') rfl rfl (addF_str (by rw [len_append, len_append, len_append, len_append]; omega))
def lineD : D → D
  | .tup [.str n, .int x, .int y] => .str (lineP n (sI x) (sI y))
  | _ => .non
theorem text_run {T : List Pl} (h : TownOK 20 T) (b : Bool) : m_law_text [some (b, .lst (T.map plD)), none, none, none] = .ok (.rt (.val (.str (textS T)))) [some (false, .lst (T.map plD)), none, none, none] := by
  have hl : (T.map plD).length ≤ 16777216 := by rw [List.length_map]; exact Nat.le_trans h.l6 (Nat.le_of_ble_eq_true rfl)
  have hL := eLc_map (it := iOf anyK (eV 0)) (ρ := [some (b, .lst (T.map plD)), none, none, none]) (vs := [1, 2, 3]) (t := (tgA 3 [(tgN 1 1), (tgN 1 2), (tgN 1 3)])) (f := (e2 (e2 (e2 (e2 (e2 (eC (.str "place ")) (eV 1) addF) (eC (.str " ")) addF) (eB [(eV 2)] strF) addF) (eC (.str " ")) addF) (eB [(eV 3)] strF) addF)) (ρw := [some (false, .lst (T.map plD)), none, none, none]) (ρ1 := [some (false, .lst (T.map plD)), none, none, none]) (ds := T.map plD) lineD rfl rfl hl fun d hd => by
    obtain ⟨⟨n, x, y⟩, hz, rfl⟩ := List.mem_map.mp hd
    obtain ⟨r1, r2, r3, r4⟩ := h.inr _ hz
    dsimp only at r1 r2 r3 r4
    have c1 := len_c (Bool.and_eq_true_iff.mp (pool_c n (h.pool _ hz))).1
    have c2 := len_c (int_ok ⟨r1, r2⟩).1
    have c3 := len_c (int_ok ⟨r3, r4⟩).1
    let ρ2 : DEnv := [some (false, .lst (T.map plD)), some (false, .str n), some (false, .int x), some (false, .int y)]
    exact ⟨ρ2, .val (.str (lineP n (sI x) (sI y))), ρ2, ρ2, rfl, line_run rfl rfl rfl (by omega) (by omega) (by omega) (by omega) (by omega), rfl, rfl⟩
  have em : (T.map plD).map lineD = (linesS T).map D.str := by
    unfold linesS
    rw [List.map_map, List.map_map]
    refine List.map_congr_left fun z _ => ?_
    rfl
  rw [em] at hL
  have hs : (("\n" : Str).length = 1) := by decide +kernel
  have sm := sum_ok (rows_town h.pool h.inr) (by unfold linesS; rw [List.length_map]; have := h.l6; omega)
  have j : joinF (.str "\n") (.lst ((linesS T).map D.str)) = some (.val (.str (textS T))) := by
    show joinS "\n" ((linesS T).map D.str) = _
    unfold joinS
    rw [asStr_map]
    dsimp only
    rw [if_pos (by rw [hs]; exact sm)]
    rfl
  have e : eM1 (eC (.str "\n")) (eLc (iOf anyK (eV 0)) [1, 2, 3] (tgA 3 [(tgN 1 1), (tgN 1 2), (tgN 1 3)]) tYes' (e2 (e2 (e2 (e2 (e2 (eC (.str "place ")) (eV 1) addF) (eC (.str " ")) addF) (eB [(eV 2)] strF) addF) (eC (.str " ")) addF) (eB [(eV 3)] strF) addF)) joinF [some (b, .lst (T.map plD)), none, none, none] = .ok (.val (.str (textS T))) [some (false, .lst (T.map plD)), none, none, none] := by
    show (nrm (eC (.str "\n")) _).bind _ = _
    rw [nrm_eC, R.bind_ok]
    show (nrm _ _).bind _ = _
    rw [nrm_ok hL, R.bind_ok]
    show (match joinF (.str "\n") (.lst ((linesS T).map D.str)) with | some o => R.ok o _ | none => R.bad) = _
    rw [j]
  exact sRet_ok e rfl
end K02

set_option Elab.async false
set_option linter.all false
set_option maxRecDepth 100000
set_option maxHeartbeats 1000000
set_option exponentiation.threshold 10000
namespace K02
open PySem PySem.Spec L2 DL
open PyProof.Rows hiding St
def oddL : List D := [.non, .bl true, .bl false, .int 0, .int 1, .int (-1), .int 2, .int 100000000, .str "", .str "a", .str "near", .tup [], .lst [], .dK [], .tup [.int 0], .tup [.tup []], .lst [.int 0], .tup [.str "a", .str "b"], .str "zz",
  .tup [.str "near", .str "a"], .tup [.int 0, .int 0, .int 0], .tup [.int 1, .int 1, .int 1], .tup [.str "a"], .dK [(.inr "a", .int 1)], .str "A", .tup [.bl true, .int 0, .int 1], .lst [.str "a", .str "b"]]
theorem odd_a (p : D) : eA [(eV 0), (e2 (eV 1) (eLst [(eTup [(eC (.str "near")), (eC (.str "a"))]), (eTup [(eC (.int 0)), (eC (.int 0)), (eC (.int 0))]), (eTup [(eC (.int 1)), (eC (.int 1)), (eC (.int 1))]), (eTup [(eC (.str "a"))]), (eDisp [((eC (.str "a")), (eC (.int 1)))]), (eC (.str "A")), (eTup [(eC (.bl true)), (eC (.int 0)), (eC (.int 1))]), (eLst [(eC (.str "a")), (eC (.str "b"))])]) addF)] [some (true, p), some (true, .lst (oddL.take 19))] = .ok [.slot 0, .val (.lst oddL)] [some (true, p), some (true, .lst (oddL.take 19))] := by kernel_rfl
theorem odd_s (p : D) : (sAsg 1 1 (eLst [(eC .non), (eC (.bl true)), (eC (.bl false)), (eC (.int 0)), (eC (.int 1)), (e1 (eC (.int 1)) negF), (eC (.int 2)), (e2 (eC (.int 10)) (eC (.int 8)) powF), (eC (.str "")), (eC (.str "a")), (eC (.str "near")), (eTup []), (eLst []), (eDisp []), (eTup [(eC (.int 0))]), (eTup [(eTup [])]), (eLst [(eC (.int 0))]), (eTup [(eC (.str "a")), (eC (.str "b"))]), (eC (.str "zz"))])) [some (true, p), none] = .ok .nx [some (true, p), some (true, .lst (oddL.take 19))] := by kernel_rfl
/-- a value of any kind -/
theorem odd_run {N : Nat} {p : D} (hp : Pot N p) (hN : N + 1 < 2 ^ 900) :
    ∃ x p' rest, m_law_odd [some (true, p), none] = .ok (.rt (.val x)) (some (true, p') :: rest) ∧ x ∈ oddL ∧ Pot (N + 1) p' := by
  obtain ⟨x, p', e, hx, hp'⟩ := of_run hp hN (b := false) (xs := oddL) (show 0 < 27 by decide) (Nat.lt_of_lt_of_le (show 27 < 32 by decide) (by decide))
  have a := odd_a p
  have s := odd_s p
  generalize D.lst (oddL.take 19) = L19 at a s
  generalize D.lst oddL = LL at a e
  have e' : m_law_of (startD 2 [some (true, p), some (false, LL)]) = .ok (.rt (.val x)) [some (true, p'), some (false, LL)] := e
  have c : eCall 2 2 m_law_of [(eV 0), (e2 (eV 1) (eLst [(eTup [(eC (.str "near")), (eC (.str "a"))]), (eTup [(eC (.int 0)), (eC (.int 0)), (eC (.int 0))]), (eTup [(eC (.int 1)), (eC (.int 1)), (eC (.int 1))]), (eTup [(eC (.str "a"))]), (eDisp [((eC (.str "a")), (eC (.int 1)))]), (eC (.str "A")), (eTup [(eC (.bl true)), (eC (.int 0)), (eC (.int 1))]), (eLst [(eC (.str "a")), (eC (.str "b"))])]) addF)] [some (true, p), some (true, L19)] = .ok (.val x) [some (true, p'), some (true, L19)] :=
    (call_mix (np := 2) (nN := 2) (m := m_law_of) (os := [.slot 0, .val LL]) a rfl rfl rfl e').trans rfl
  exact ⟨x, p', _, (sSeq_nx s).trans (sRet_ok c rfl), hx, hp'⟩
end K02

set_option Elab.async false
set_option linter.all false
set_option maxRecDepth 100000
set_option maxHeartbeats 1000000
set_option exponentiation.threshold 10000
namespace K02
open PySem PySem.Spec L2 DL
open PyProof.Rows hiding St
/-! integer_in, of any word -/
theorem eSl_ok {f : M Opd} {l h : M (Option Int)} {ρ ρ1 ρ2 ρ3 : DEnv} {o r : Opd} {lo hi : Option Int} {d : D} (hf : f ρ = .ok o ρ1) (hl : l ρ1 = .ok lo ρ2) (hh : h ρ2 = .ok hi ρ3) (lk : look (nrmO o) ρ3 = some d) (hs : slF lo hi d = some r) : eSl f l h ρ = .ok r ρ3 := by
  show (nrm f ρ).bind _ = _
  rw [nrm_ok hf, R.bind_ok]
  show (l ρ1).bind _ = _
  rw [hl, R.bind_ok]
  show (h ρ2).bind _ = _
  rw [hh, R.bind_ok]
  unfold fin1
  rw [lk]
  dsimp only
  rw [hs]
theorem pAt_ok {f : M Opd} {ρ ρ1 : DEnv} {o : Opd} {i : Int} (hf : f ρ = .ok o ρ1) (lk : look (nrmO o) ρ1 = some (.int i)) : pAt f ρ = .ok (some i) ρ1 := by
  show (nrm f ρ).bind _ = _
  rw [nrm_ok hf, R.bind_ok, lk]
theorem cutS_mem {z : Str} {lo hi : Option Int} {c : Nat} (h : c ∈ (cutS z lo hi).cps.toList) : c ∈ z.cps.toList := by
  unfold cutS at h
  exact List.mem_of_mem_drop (List.mem_of_mem_take h)
theorem cutS_ok {z : Str} (lo hi : Option Int) (h : okS z) : okS (cutS z lo hi) :=
  ⟨strOk_iff.mpr fun c hc => strOk_iff.mp h.1 c (cutS_mem hc), Nat.le_trans (cutS_length z lo hi) h.2⟩
theorem slF_str {z : Str} (lo hi : Option Int) (h : z.length ≤ 10000) : slF lo hi (.str z) = some (.val (.str (cutS z lo hi))) := by
  show (if _ then _ else _) = _
  rw [if_pos (by omega)]
theorem cut_tail (z : Str) : (cutS z (some 1) none).cps.toList = z.cps.toList.drop 1 := by
  have e : z.length = z.cps.toList.length := by simp [Str.length]
  unfold cutS
  rw [HT.sIx_none, show (some (1 : Int)) = some ((1 : Nat) : Int) from rfl, HT.sIx_nat]
  show (List.drop (min 1 z.length) z.cps.toList).take (z.length - min 1 z.length) = _
  rw [e]
  cases z.cps.toList with
  | nil => rfl
  | cons c r =>
    rw [show min 1 (c :: r).length = 1 by rw [List.length_cons]; omega]
    show r.take ((c :: r).length - 1) = r
    rw [List.length_cons, Nat.add_sub_cancel, List.take_length]
theorem cut_head (z : Str) : (cutS z none (some 1)).cps.toList = z.cps.toList.take 1 := by
  have e : z.length = z.cps.toList.length := by simp [Str.length]
  unfold cutS
  rw [HT.sIx_none, show (some (1 : Int)) = some ((1 : Nat) : Int) from rfl, HT.sIx_nat]
  show (List.drop 0 z.cps.toList).take (min 1 z.length - 0) = _
  rw [e]
  cases z.cps.toList with
  | nil => rfl
  | cons c r =>
    rw [show min 1 (c :: r).length = 1 by rw [List.length_cons]; omega]
    rfl
theorem minus_tl : ("-" : Str).cps.toList = [45] := by decide +kernel
theorem head_minus {z : Str} (h : cutS z none (some 1) = "-") : z.cps.toList = 45 :: (cutS z (some 1) none).cps.toList := by
  have e := congrArg (fun s : Str => s.cps.toList) h
  rw [cut_head, minus_tl] at e
  rw [cut_tail]
  cases hz : z.cps.toList with
  | nil => rw [hz] at e; cases e
  | cons c r =>
    rw [hz] at e
    have : c = 45 := by simpa using e
    rw [this]; rfl
def digS : Str := "0123456789"
theorem dig_tl : digS.cps.toList = [48, 49, 50, 51, 52, 53, 54, 55, 56, 57] := by decide +kernel
theorem dig_mem {c : Nat} (h : c ∈ digS.cps.toList) : 48 ≤ c ∧ c ≤ 57 := by
  rw [dig_tl] at h
  simp only [List.mem_cons, List.not_mem_nil, or_false] at h
  omega
def allDig (s : Str) : Bool := s.cps.toList.all fun c => decide (c ∈ digS.cps.toList)
theorem allDig_of {s : Str} (h : allDig s = true) : NumText.AllDigits s.cps.toList := fun c hc => dig_mem (of_decide_eq_true (List.all_eq_true.mp h c hc))
theorem digits_lt : ∀ (cs : List Nat) (a : Nat), NumText.AllDigits cs → cs.foldl (fun acc c => acc * 10 + (c - 48)) a + 1 ≤ (a + 1) * 10 ^ cs.length
  | [], a, _ => by simp
  | c :: cs, a, h => by
    have ih := digits_lt cs (a * 10 + (c - 48)) h.tail
    have hc := h.head
    have hm : (a * 10 + (c - 48) + 1) * 10 ^ cs.length ≤ ((a + 1) * 10) * 10 ^ cs.length := Nat.mul_le_mul_right _ (by omega)
    show cs.foldl _ (a * 10 + (c - 48)) + 1 ≤ _
    rw [List.length_cons, Nat.pow_succ, Nat.mul_comm (10 ^ cs.length) 10, ← Nat.mul_assoc]
    exact Nat.le_trans ih hm
theorem val_lt {cs : List Nat} (h : NumText.AllDigits cs) (hl : cs.length ≤ 500) : NumText.digitsVal cs < 10 ^ 500 := by
  have := digits_lt cs 0 h
  have h2 : (10 : Nat) ^ cs.length ≤ 10 ^ 500 := Nat.pow_le_pow_right (by decide) hl
  show cs.foldl _ 0 < _
  omega
theorem sI_big {i : Int} (h : i.natAbs < 10 ^ 500) : okS (sI i) := by
  refine ⟨strOk_lit _, ?_⟩
  cases i with
  | ofNat n =>
    have := PyProof.Rows.toString_length_le (v := (n : Int)) (by omega) (k := 500) (by decide) (by exact_mod_cast h)
    exact Nat.le_trans this (by decide)
  | negSucc n =>
    have := PyProof.Rows.toString_length_le (v := ((n + 1 : Nat) : Int)) (by omega) (k := 500) (by decide) (by exact_mod_cast h)
    have e : sI (Int.negSucc n) = Str.ofString "-" ++ Str.ofString (toString ((n + 1 : Nat) : Int)) := by
      refine TL.ext_tl ?_
      rw [TL.tl_append, TL.tl_ofString, TL.tl_ofString]
      show TL.tl (Str.ofString ("-" ++ toString (n + 1))) = _
      rw [TL.tl_ofString, String.toList_append, List.map_append]
      rfl
    have e1 : (Str.ofString "-").length = 1 := by decide +kernel
    rw [e, len_append, e1]; omega
theorem strF_big {i : Int} (h : i.natAbs < 10 ^ 500) : strF [.int i] = some (.val (.str (sI i))) := by
  have h2 : i.natAbs < 2 ^ 1900 := Nat.lt_of_lt_of_le h (by decide +kernel)
  exact if_pos (Nat.lt_of_lt_of_le (log2_lt h2 (by decide)) (by decide))
theorem empty_tl {s : Str} (h : s ≠ "") : s.cps.toList ≠ [] := by
  intro e
  refine h (TL.ext_tl ?_)
  show s.cps.toList = ("" : Str).cps.toList
  rw [e]; decide +kernel
theorem intText_some {w : Str} (hl : w.length ≤ 500) {fig : Str} (hf : fig = if cutS w none (some 1) = "-" then cutS w (some 1) none else w) (ne : fig ≠ "") (ad : allDig fig = true) : ∃ n : Int, PySem.intText? w = some n ∧ n.natAbs < 10 ^ 500 := by
  have hA := allDig_of ad
  have hN := empty_tl ne
  have hw : w.cps.toList.length ≤ 500 := by simpa [Str.length] using hl
  by_cases hm : cutS w none (some 1) = "-"
  · rw [if_pos hm] at hf
    subst hf
    have e := head_minus hm
    have hv := val_lt hA (by rw [e, List.length_cons] at hw; omega)
    exact ⟨_, PySem.intText_neg e hA hN (by omega), by rw [Int.natAbs_neg, Int.natAbs_natCast]; exact hv⟩
  · rw [if_neg hm] at hf
    subst hf
    exact ⟨_, PySem.intText_digits hA hN (by omega), by rw [Int.natAbs_natCast]; exact val_lt hA hw⟩
theorem figs_all {s : Str} (h : s.length ≤ 10000) (x0 x2 : DL.Slot) : eB [(eLc (iOf anyK (eV 1)) [3] (tgN 1 3) tYes' (e2 (eV 3) (eC (.str "0123456789")) inF))] allF [x0, some (false, .str s), x2, none] = .ok (.val (.bl (allDig s))) [x0, some (false, .str s), x2, none] := by
  have hlt : s.cps.toList.length ≤ 16777216 := by simp only [Str.length] at h; simpa using (by omega : s.cps.size ≤ 16777216)
  have hm := eLc_map (it := iOf anyK (eV 1)) (ρ := [x0, some (false, .str s), x2, none]) (vs := [3]) (t := tgN 1 3) (f := (e2 (eV 3) (eC (.str "0123456789")) inF)) (ρw := [x0, some (false, .str s), x2, none]) (ρ1 := [x0, some (false, .str s), x2, none]) (ds := s.cps.toList.map fun c => D.str ⟨#[c]⟩) (fun d => match d with | .str z => .bl (z.cps.toList.all fun c => decide (c ∈ digS.cps.toList)) | _ => .non) (by simp [iOf, eV, itO, takeO, anyK, lstK, tupK, strK]) rfl (by simpa using hlt) fun d hd => by
    obtain ⟨c, hc, rfl⟩ := List.mem_map.mp hd
    let ρ2 : DEnv := [x0, some (false, .str s), x2, some (false, .str ⟨#[c]⟩)]
    refine ⟨ρ2, .val (.bl (decide (c ∈ digS.cps.toList))), ρ2, ρ2, rfl, ?_, ?_, rfl⟩
    · exact e2_ok (eV_ok rfl) rfl rfl rfl rfl
    · simp [takeO]
  refine eB_ok (eA_cons hm eA_nil) rfl ?_
  have e : (((s.cps.toList.map fun c => D.str ⟨#[c]⟩).map fun d => match d with | .str z => D.bl (z.cps.toList.all fun c => decide (c ∈ digS.cps.toList)) | _ => D.non)) = (s.cps.toList.map fun c => decide (c ∈ digS.cps.toList)).map D.bl := by
    rw [List.map_map, List.map_map]
    refine List.map_congr_left fun c _ => ?_
    simp
  rw [e, allF_map]
  unfold allDig
  congr 3
  rw [List.all_map]; rfl
theorem intR_any {w : Str} (hw : PyData.strOk w = true) (hl : w.length ≤ 500) : ∃ d, IntR w d ∧ isND d = true ∧ ∀ x, d = .int x → sI x = w := by
  have ow : okS w := ⟨hw, by omega⟩
  let ρ0 : DEnv := [some (false, .str w), none, none, none]
  have om : okS "-" := ⟨by decide +kernel, by decide +kernel⟩
  have oe : okS "" := ⟨by decide +kernel, by decide +kernel⟩
  have s1 : eSl (eV 0) pNo (pAt (eC (.int 1))) ρ0 = .ok (.val (.str (cutS w none (some 1)))) ρ0 := eSl_ok (eV_ok rfl) rfl (pAt_ok (o := .val (.int 1)) rfl rfl) rfl (slF_str _ _ ow.2)
  have s2 : eSl (eV 0) (pAt (eC (.int 1))) pNo ρ0 = .ok (.val (.str (cutS w (some 1) none))) ρ0 := eSl_ok (eV_ok rfl) (pAt_ok (o := .val (.int 1)) rfl rfl) rfl rfl (slF_str _ _ ow.2)
  have t1 : tV (e2 (eSl (eV 0) pNo (pAt (eC (.int 1)))) (eC (.str "-")) eqF) ρ0 = .ok (decide (cutS w none (some 1) = "-")) ρ0 := tV_ok (e2_ok s1 (b := .val (.str "-")) rfl rfl rfl (eqF_str (cutS_ok _ _ ow) om)) rfl
  obtain ⟨fig, hf⟩ : ∃ fig, fig = if cutS w none (some 1) = "-" then cutS w (some 1) none else w := ⟨_, rfl⟩
  have of : okS fig := by rw [hf]; split; exact cutS_ok _ _ ow; exact ow
  let ρ1 : DEnv := [some (false, .str w), some (false, .str fig), none, none]
  have a1 : sAsg 1 1 (eIf (tV (e2 (eSl (eV 0) pNo (pAt (eC (.int 1)))) (eC (.str "-")) eqF)) (eSl (eV 0) (pAt (eC (.int 1))) pNo) (eV 0)) ρ0 = .ok .nx ρ1 := by
    by_cases hm : cutS w none (some 1) = "-"
    · rw [if_pos hm] at hf
      rw [decide_eq_true hm] at t1
      subst hf
      exact sAsg_ok ((eIf_ok t1).trans s2) rfl rfl
    · rw [if_neg hm] at hf
      rw [decide_eq_false hm] at t1
      subst hf
      exact sAsg_ok (((eIf_ok t1).trans (if_neg Bool.false_ne_true)).trans (eV_ok (i := 0) (z := (false, .str fig)) rfl)) rfl rfl
  have t2 : tV (e2 (eV 1) (eC (.str "")) eqF) ρ1 = .ok (decide (fig = "")) ρ1 := tV_ok (e2_ok (eV_ok rfl) (b := .val (.str "")) rfl rfl rfl (eqF_str of oe)) rfl
  have t3 : tNot' (tV (eB [(eLc (iOf anyK (eV 1)) [3] (tgN 1 3) tYes' (e2 (eV 3) (eC (.str "0123456789")) inF))] allF)) ρ1 = .ok (!allDig fig) ρ1 := tNot_ok (tV_ok (figs_all of.2 _ _) rfl)
  have none_ : ∀ {ρ' : DEnv}, tOr' (tV (e2 (eV 1) (eC (.str "")) eqF)) (tNot' (tV (eB [(eLc (iOf anyK (eV 1)) [3] (tgN 1 3) tYes' (e2 (eV 3) (eC (.str "0123456789")) inF))] allF))) ρ1 = .ok true ρ1 → ∃ d, IntR w d ∧ isND d = true ∧ ∀ x, d = .int x → sI x = w := fun {ρ'} h =>
    ⟨.non, ⟨ρ1, by unfold m_integer_in; exact (sSeq_nx a1).trans (sSeq_rt ((sIf_ok h).trans rfl))⟩, rfl, fun x hx => by cases hx⟩
  by_cases he : fig = ""
  · rw [decide_eq_true he] at t2
    exact none_ (ρ' := ρ1) (tOr_t t2)
  · rw [decide_eq_false he] at t2
    cases ha : allDig fig with
    | false =>
      rw [ha] at t3
      exact none_ (ρ' := ρ1) ((tOr_f t2).trans t3)
    | true =>
      rw [ha] at t3
      obtain ⟨n, hn, hb⟩ := intText_some hl hf he ha
      let ρ2 : DEnv := [some (false, .str w), some (false, .str fig), some (false, .int n), none]
      have i1 : intSF [.str w] = some (.val (.int n)) := by
        show (match PySem.intText? w with | some n => if w.length ≤ 640 then some (Opd.val (.int n)) else none | none => none) = _
        rw [hn]
        exact if_pos (by omega)
      have a2 : sAsg 1 2 (eB [(eV 0)] intSF) ρ1 = .ok .nx ρ2 := sAsg_ok (eB_ok (eA_cons (eV_ok rfl) eA_nil) rfl i1) rfl rfl
      have t4 : tV (e2 (eB [(eV 2)] strF) (eV 0) eqF) ρ2 = .ok (decide (sI n = w)) ρ2 := tV_ok (e2_ok (eB_ok (eA_cons (eV_ok rfl) eA_nil) rfl (strF_big hb)) (eV_ok rfl) rfl rfl (eqF_str (sI_big hb) ow)) rfl
      have hd : (sSeq (sIf (tOr' (tV (e2 (eV 1) (eC (.str "")) eqF)) (tNot' (tV (eB [(eLc (iOf anyK (eV 1)) [3] (tgN 1 3) tYes' (e2 (eV 3) (eC (.str "0123456789")) inF))] allF)))) (sRet 1 (eC .non)) sNil) (sSeq (sAsg 1 2 (eB [(eV 0)] intSF)) (sRet 1 (eIf (tV (e2 (eB [(eV 2)] strF) (eV 0) eqF)) (eV 2) (eC .non))))) ρ1 = sRet 1 (eIf (tV (e2 (eB [(eV 2)] strF) (eV 0) eqF)) (eV 2) (eC .non)) ρ2 :=
        (sSeq_nx ((sIf_ok ((tOr_f t2).trans t3)).trans rfl)).trans (sSeq_nx a2)
      by_cases hq : sI n = w
      · rw [decide_eq_true hq] at t4
        refine ⟨.int n, ⟨ρ2, ?_⟩, rfl, fun x hx => by cases hx; exact hq⟩
        unfold m_integer_in
        exact (sSeq_nx a1).trans (hd.trans (sRet_ok (((eIf_ok t4).trans (if_pos rfl)).trans (eV_ok (i := 2) (z := (false, .int n)) rfl)) rfl))
      · rw [decide_eq_false hq] at t4
        refine ⟨.non, ⟨ρ2, ?_⟩, rfl, fun x hx => by cases hx⟩
        unfold m_integer_in
        exact (sSeq_nx a1).trans (hd.trans (sRet_ok (o := .val .non) (ρ1 := ρ2) ((eIf_ok t4).trans rfl) rfl))
end K02

set_option Elab.async false
set_option linter.all false
set_option maxRecDepth 100000
set_option maxHeartbeats 1000000
set_option exponentiation.threshold 10000
namespace K02
open PySem PySem.Spec L2 DL
open PyProof.Rows hiding St
/-! the law's own reading of a number, of a line -/
def knownS : List Str := (List.range 41).map fun k : Nat => sI ((k : Int) - 20)
def numI (w : Str) : Int := match (List.range 41).find? fun k : Nat => decide (sI ((k : Int) - 20) = w) with
  | some k => (k : Int) - 20
  | none => 99
abbrev knD : D := .lst (knownS.map D.str)
theorem kn_set (w : D) : sAsg 1 1 (eLc (iRng2 [(e1 (eC (.int 20)) negF), (eC (.int 21))]) [2] (tgN 1 2) tYes' (eB [(eV 2)] strF)) [some (false, w), none, none] = .ok .nx [some (false, w), some (true, knD), none] := by kernel_rfl
def numOkB (k : Nat) : Bool := decide (numI (sI ((k : Int) - 20)) = (k : Int) - 20) && match lidxF knD (.str (sI ((k : Int) - 20))) with
  | some (.val (.int j)) => decide (j = k)
  | _ => false
theorem num_all : ((List.range 41).all numOkB) = true := by decide +kernel
theorem kn_ok : ∀ n ∈ knownS, PyData.strOk n = true := fun n hn => by
  obtain ⟨k, _, rfl⟩ := List.mem_map.mp hn
  exact strOk_lit _
theorem num_cases (w : Str) : (∃ k : Nat, k < 41 ∧ w = sI ((k : Int) - 20) ∧ numI w = (k : Int) - 20) ∨ (numI w = 99 ∧ w ∉ knownS) := by
  cases e : (List.range 41).find? fun k : Nat => decide (sI ((k : Int) - 20) = w) with
  | some k =>
    have h0 : decide (sI ((k : Int) - 20) = w) = true := List.find?_some (p := fun k : Nat => decide (sI ((k : Int) - 20) = w)) e
    have h1 := of_decide_eq_true h0
    have h2 := List.mem_range.mp (List.mem_of_find?_eq_some e)
    exact .inl ⟨k, h2, h1.symm, by unfold numI; rw [e]⟩
  | none =>
    refine .inr ⟨by unfold numI; rw [e], fun h => ?_⟩
    obtain ⟨k, hk, hs⟩ := List.mem_map.mp h
    have := List.find?_eq_none.mp e k hk
    simp only [decide_eq_true_eq] at this
    exact this hs
theorem num_at {k : Nat} (h : k < 41) : numI (sI ((k : Int) - 20)) = (k : Int) - 20 ∧ lidxF knD (.str (sI ((k : Int) - 20))) = some (.val (.int k)) := by
  have := List.all_eq_true.mp num_all k (List.mem_range.mpr h)
  obtain ⟨h1, h2⟩ := Bool.and_eq_true_iff.mp this
  refine ⟨of_decide_eq_true h1, ?_⟩
  split at h2
  · rename_i j e
    rw [e, of_decide_eq_true h2]
  · cases h2
theorem any_mem {ns : List Str} {w : Str} : (ns.any fun y => decide (y = w)) = decide (w ∈ ns) := by
  rw [Bool.eq_iff_iff, List.any_eq_true, decide_eq_true_iff]
  constructor
  · rintro ⟨y, hy, e⟩
    rw [← of_decide_eq_true e]; exact hy
  · intro h
    exact ⟨w, h, decide_eq_true rfl⟩
theorem number_run {w : Str} (hw : PyData.strOk w = true) : m_law_number_in [some (false, .str w), none, none] = .ok (.rt (.val (.int (numI w)))) [some (false, .str w), some (true, knD), none] := by
  have a := kn_set (.str w)
  have i : inF (.str w) knD = some (.val (.bl (decide (w ∈ knownS)))) := by
    unfold inF
    rw [inB_strs kn_ok hw, any_mem]; rfl
  have hl : isLst knD = true := rfl
  have lk : ∀ k : Nat, k < 41 → lidxF knD (.str (sI ((k : Int) - 20))) = some (.val (.int k)) := fun k hk => (num_at hk).2
  have hm : ∀ k : Nat, k < 41 → sI ((k : Int) - 20) ∈ knownS := fun k hk => List.mem_map.mpr ⟨k, List.mem_range.mpr hk, rfl⟩
  generalize knD = KD at a i hl lk ⊢
  have nc := num_cases w
  generalize knownS = KS at i hm nc
  let ρ : DEnv := [some (false, .str w), some (true, KD), none]
  have t : tV (e2 (eV 0) (eV 1) inF) ρ = .ok (decide (w ∈ KS)) ρ := tV_ok (e2_ok (eV_ok rfl) (eV_ok rfl) rfl rfl i) rfl
  unfold m_law_number_in
  refine (sSeq_nx a).trans ?_
  rcases nc with ⟨k, hk, e, en⟩ | ⟨en, hn⟩
  · have hm := hm k hk
    rw [← e] at hm
    rw [decide_eq_true hm] at t
    have l : lidxF KD (.str w) = some (.val (.int k)) := by rw [e]; exact lk k hk
    have x : eL1 (eV 1) (eV 0) lidxF ρ = .ok (.val (.int k)) ρ := by
      unfold eL1
      rw [nrm_eV (x := (true, KD)) rfl, R.bind_ok]
      show (if isLst KD = true then (eA [eV 0] ρ).bind _ else R.bad) = _
      rw [if_pos hl, eA_cons (eV_ok (i := 0) (z := (false, .str w)) rfl) eA_nil, R.bind_ok]
      show (match lidxF KD (.str w) with | some o => R.ok o ρ | none => R.bad) = _
      rw [l]
    have y : e2 (eL1 (eV 1) (eV 0) lidxF) (eC (.int 20)) subF ρ = .ok (.val (.int (numI w))) ρ := e2_ok x (b := .val (.int 20)) rfl rfl rfl (by rw [en]; rfl)
    exact sRet_ok (((eIf_ok t).trans (if_pos rfl)).trans y) rfl
  · rw [decide_eq_false hn] at t
    refine sRet_ok (o := .val (.int (numI w))) (ρ1 := ρ) (((eIf_ok t).trans (if_neg Bool.false_ne_true)).trans ?_) rfl
    rw [en]; rfl
theorem intR_one {w : Str} {d d' : D} (h : IntR w d) (h' : IntR w d') : d = d' := by
  obtain ⟨ρ, e⟩ := h
  obtain ⟨ρ', e'⟩ := h'
  rw [e] at e'
  injection e' with e1 _
  injection e1 with e2
  injection e2
/-- both readings tell the same -/
theorem num_same {w : Str} {d : D} (h : IntR w d) (hn : isND d = true) (hs : ∀ x, d = .int x → sI x = w) : edgeB d = !decide (numI w = 99) ∧ (edgeB d = true → d = .int (numI w)) := by
  rcases num_cases w with ⟨k, hk, e, en⟩ | ⟨en, hm⟩
  · have hi : IntR w (.int ((k : Int) - 20)) := by rw [e]; exact (int_ok (by omega)).2
    have hd := intR_one h hi
    subst hd
    have e1 : edgeB (.int ((k : Int) - 20)) = true := by
      show (decide _ && decide _) = true
      rw [decide_eq_true (by omega), decide_eq_true (by omega)]; rfl
    rw [e1, en, decide_eq_false (by omega)]
    exact ⟨rfl, fun _ => rfl⟩
  · have e1 : edgeB d = false := by
      cases d with
      | int x =>
        cases hb : edgeB (.int x) with
        | false => rfl
        | true =>
          obtain ⟨b1, b2⟩ := Bool.and_eq_true_iff.mp (show (decide (-20 ≤ x) && decide (x ≤ 20)) = true from hb)
          have b1 := of_decide_eq_true b1
          have b2 := of_decide_eq_true b2
          exact absurd (List.mem_map.mpr ⟨(x + 20).toNat, List.mem_range.mpr (by omega), by rw [show (((x + 20).toNat : Nat) : Int) - 20 = x by omega]; exact hs x rfl⟩) hm
      | _ => rfl
    rw [e1, en]
    exact ⟨rfl, fun z => by cases z⟩
/-! words of a line -/
theorem spl_mem {S : List Nat} {c : Nat} : ∀ (l : List Nat) (k : Nat) (acc p : List Nat), p ∈ TL.spl S k acc l → c ∈ p → c ∈ acc ∨ c ∈ l
  | [], k, acc, p, hp, hc => by
    rw [TL.spl_nil, List.mem_singleton] at hp
    rw [hp] at hc; exact .inl hc
  | x :: r, 0, acc, p, hp, hc => by
    have hp : p ∈ (if TL.pre S (x :: r) = true then acc :: TL.spl S (S.length - 1) [] r else TL.spl S 0 (acc ++ [x]) r) := hp
    split at hp
    · rcases List.mem_cons.mp hp with rfl | hp
      · exact .inl hc
      · rcases spl_mem r _ [] p hp hc with h | h
        · cases h
        · exact .inr (List.mem_cons_of_mem _ h)
    · rcases spl_mem r 0 _ p hp hc with h | h
      · rcases List.mem_append.mp h with h | h
        · exact .inl h
        · rw [List.mem_singleton] at h; rw [h]; exact .inr List.mem_cons_self
      · exact .inr (List.mem_cons_of_mem _ h)
  | x :: r, k + 1, acc, p, hp, hc => by
    rcases spl_mem r k acc p hp hc with h | h
    · exact .inl h
    · exact .inr (List.mem_cons_of_mem _ h)
theorem spl_sum {s : Nat} : ∀ (l acc : List Nat), ((TL.spl [s] 0 acc l).map List.length).sum + (TL.spl [s] 0 acc l).length = acc.length + l.length + 1
  | [], acc => by rw [TL.spl_nil]; simp
  | x :: r, acc => by
    have e : TL.spl [s] 0 acc (x :: r) = (if TL.pre [s] (x :: r) = true then acc :: TL.spl [s] 0 [] r else TL.spl [s] 0 (acc ++ [x]) r) := rfl
    rw [e]
    split
    · rw [List.map_cons, List.sum_cons, List.length_cons]
      have := spl_sum (s := s) r []
      rw [List.length_nil] at this
      rw [List.length_cons]; omega
    · have := spl_sum (s := s) r (acc ++ [x])
      rw [List.length_append, List.length_singleton] at this
      rw [List.length_cons]; omega
theorem split_tl {y : Str} {s : Nat} (ey : y.cps.toList = [s]) (hk : y.cps.all (· < 256) = true) (x : Str) : (Txt.split x y).map (fun w => w.cps.toList) = TL.spl [s] 0 [] x.cps.toList := by
  have ey' : TL.tl y = [s] := ey
  have := TL.split_spl x y (by rw [ey']; simp) (TL.kind_ok hk)
  rw [ey'] at this
  exact this
theorem split_mem {y : Str} {s : Nat} (ey : y.cps.toList = [s]) (hk : y.cps.all (· < 256) = true) {x w : Str} (hw : w ∈ Txt.split x y) {c : Nat} (hc : c ∈ w.cps.toList) : c ∈ x.cps.toList := by
  have h : w.cps.toList ∈ TL.spl [s] 0 [] x.cps.toList := by
    rw [← split_tl ey hk]; exact List.mem_map_of_mem hw
  rcases spl_mem _ _ _ _ h hc with h | h
  · cases h
  · exact h
theorem split_sum {y : Str} {s : Nat} (ey : y.cps.toList = [s]) (hk : y.cps.all (· < 256) = true) (x : Str) : ((Txt.split x y).map (·.length)).sum + (Txt.split x y).length = x.length + 1 := by
  have h := spl_sum (s := s) x.cps.toList []
  rw [← split_tl ey hk, List.map_map, List.length_map] at h
  have e : ((Txt.split x y).map (List.length ∘ fun w => w.cps.toList)) = (Txt.split x y).map (·.length) := List.map_congr_left fun w _ => by simp [Str.length]
  rw [e] at h
  have e2 : x.cps.toList.length = x.length := by simp [Str.length]
  rw [e2, List.length_nil] at h
  omega
theorem sum_mem {xs : List Str} {w : Str} (h : w ∈ xs) : w.length ≤ (xs.map (·.length)).sum := by
  induction xs with
  | nil => cases h
  | cons x xs ih =>
    rw [List.map_cons, List.sum_cons]
    rcases List.mem_cons.mp h with rfl | h
    · omega
    · have := ih h; omega
theorem e32 : (" " : Str).cps.toList = [32] := by decide +kernel
theorem e10 : ("\n" : Str).cps.toList = [10] := by decide +kernel
theorem k32 : (" " : Str).cps.all (· < 256) = true := by decide +kernel
theorem k10 : ("\n" : Str).cps.all (· < 256) = true := by decide +kernel
theorem words_ok {l w : Str} (h : PyData.strOk l = true) (hw : w ∈ Txt.split l " ") : PyData.strOk w = true ∧ w.length ≤ l.length := by
  refine ⟨strOk_iff.mpr fun c hc => strOk_iff.mp h c (split_mem e32 k32 hw hc), ?_⟩
  have h1 := split_sum e32 k32 l
  have h2 := sum_mem hw
  have h3 : 0 < (Txt.split l " ").length := List.length_pos_of_mem hw
  omega
theorem lines_ok {l w : Str} (h : PyData.strOk l = true) (hw : w ∈ Txt.split l "\n") : PyData.strOk w = true ∧ w.length ≤ l.length := by
  refine ⟨strOk_iff.mpr fun c hc => strOk_iff.mp h c (split_mem e10 k10 hw hc), ?_⟩
  have h1 := split_sum e10 k10 l
  have h2 := sum_mem hw
  have h3 : 0 < (Txt.split l "\n").length := List.length_pos_of_mem hw
  omega
/-- what the law reads of a line -/
def readW : List Str → Option Pl
  | [w0, w1, w2, w3] => if w0 = "place" ∧ nameB w1 = true ∧ numI w2 ≠ 99 ∧ numI w3 ≠ 99 then some (w1, numI w2, numI w3) else none
  | _ => none
def readL (l : Str) : Option Pl := readW (Txt.split l " ")
theorem place_any {l : Str} (h : PyData.strOk l = true) (hl : l.length ≤ 500) : PlaceR l (readL l) := by
  have ol : okS l := ⟨h, by omega⟩
  have hs := split_sum e32 k32 l
  by_cases h4 : (Txt.split l " ").length = 4
  · obtain ⟨w0, w1, w2, w3, e⟩ : ∃ w0 w1 w2 w3, Txt.split l " " = [w0, w1, w2, w3] := by
      match hE : Txt.split l " ", h4 with
      | [a, b, c, d], _ => exact ⟨a, b, c, d, rfl⟩
    have ok : ∀ w ∈ [w0, w1, w2, w3], PyData.strOk w = true ∧ w.length ≤ 500 := fun w hw => by
      obtain ⟨a, b⟩ := words_ok h (e ▸ hw)
      exact ⟨a, by omega⟩
    obtain ⟨o0, b0⟩ := ok w0 (by simp)
    obtain ⟨o1, b1⟩ := ok w1 (by simp)
    obtain ⟨o2, b2⟩ := ok w2 (by simp)
    obtain ⟨o3, b3⟩ := ok w3 (by simp)
    obtain ⟨d2, i2, n2, s2⟩ := intR_any o2 b2
    obtain ⟨d3, i3, n3, s3⟩ := intR_any o3 b3
    obtain ⟨q2, r2⟩ := num_same i2 n2 s2
    obtain ⟨q3, r3⟩ := num_same i3 n3 s3
    have hp := place_4 ol e ⟨o0, by omega⟩ ⟨o1, by omega⟩ i2 i3 n2 n3
    have er : readL l = if w0 = "place" ∧ nameB w1 = true ∧ numI w2 ≠ 99 ∧ numI w3 ≠ 99 then some (w1, numI w2, numI w3) else none := by
      unfold readL
      rw [e]; rfl
    by_cases hc : w0 = "place" ∧ nameB w1 = true ∧ numI w2 ≠ 99 ∧ numI w3 ≠ 99
    · rw [if_pos hc] at er
      have e2 : edgeB d2 = true := by rw [q2, decide_eq_false hc.2.2.1]; rfl
      have e3 : edgeB d3 = true := by rw [q3, decide_eq_false hc.2.2.2]; rfl
      have ew : placeW w0 w1 d2 d3 = plD (w1, numI w2, numI w3) := by
        unfold placeW
        rw [if_pos ⟨hc.1, hc.2.1, e2, e3⟩, r2 e2, r3 e3]; rfl
      rw [ew] at hp
      rw [er]
      exact ⟨fun p hp => by cases hp; exact ⟨o1, by show w1.length ≤ _; omega⟩, hp⟩
    · rw [if_neg hc] at er
      have ew : placeW w0 w1 d2 d3 = .non := by
        unfold placeW
        refine if_neg fun z => hc ⟨z.1, z.2.1, fun z2 => ?_, fun z3 => ?_⟩
        · rw [z2] at q2; rw [z.2.2.1] at q2; cases q2
        · rw [z3] at q3; rw [z.2.2.2] at q3; cases q3
      rw [ew] at hp
      rw [er]
      exact ⟨fun p hp => (nomatch hp), hp⟩
  · have er : readL l = none := by
      unfold readL
      match hE : Txt.split l " " with
      | [] => rfl
      | [_] => rfl
      | [_, _] => rfl
      | [_, _, _] => rfl
      | [_, _, _, _] => rw [hE] at h4; exact absurd rfl h4
      | _ :: _ :: _ :: _ :: _ :: _ => rfl
    rw [er]
    exact ⟨fun p hp => (nomatch hp), place_not4 ol h4 (by omega)⟩
end K02

set_option Elab.async false
set_option linter.all false
set_option maxRecDepth 100000
set_option maxHeartbeats 1000000
set_option exponentiation.threshold 10000
namespace K02
open PySem PySem.Spec L2 DL
open PyProof.Rows hiding St
/-! the law's own reading of a text -/
theorem eCh_ok {f g h : M Opd} {F F' : D → D → Option Opd} {ρ ρ1 ρ2 ρ3 : DEnv} {a b c o : Opd} {x y z : D} (h1 : f ρ = .ok a ρ1) (h2 : g ρ1 = .ok b ρ2) (l1 : look (nrmO a) ρ2 = some x) (l2 : look (nrmO b) ρ2 = some y) (e : F x y = some (.val (.bl true))) (h3 : h ρ2 = .ok c ρ3) (l2' : look (nrmO b) ρ3 = some y) (l3 : look (nrmO c) ρ3 = some z) (e' : F' y z = some o) : eCh f g h F F' ρ = .ok o ρ3 := by
  show (nrm f ρ).bind _ = _
  rw [nrm_ok h1, R.bind_ok]
  show (nrm g ρ1).bind _ = _
  rw [nrm_ok h2, R.bind_ok, l1, l2]
  dsimp only
  rw [e]
  dsimp only
  rw [nrm_ok h3, R.bind_ok]
  unfold fin2
  rw [l2', l3]
  dsimp only
  rw [e']
theorem eCh_no {f g h : M Opd} {F F' : D → D → Option Opd} {ρ ρ1 ρ2 : DEnv} {a b : Opd} {x y : D} (h1 : f ρ = .ok a ρ1) (h2 : g ρ1 = .ok b ρ2) (l1 : look (nrmO a) ρ2 = some x) (l2 : look (nrmO b) ρ2 = some y) (e : F x y = some (.val (.bl false))) : eCh f g h F F' ρ = .ok (.val (.bl false)) ρ2 := by
  show (nrm f ρ).bind _ = _
  rw [nrm_ok h1, R.bind_ok]
  show (nrm g ρ1).bind _ = _
  rw [nrm_ok h2, R.bind_ok, l1, l2]
  dsimp only
  rw [e]
def letB (s : Str) : Bool := s.cps.toList.all fun c => decide (c ∈ lowS.cps.toList)
theorem lets_all {s : Str} (h : s.length ≤ 10000) {it : M (List D)} {ρ ρw : DEnv} {j : Nat} (hi : it ρ = .ok (s.cps.toList.map fun c => D.str ⟨#[c]⟩) ρw) (hw : ∀ d : D, tgN 1 j d ρw = some (ρw.set j (some (false, d)))) (hj : (ρw.set j none) = ρw) (hl : j < ρw.length) :
    eB [(eLc it [j] (tgN 1 j) tYes' (e2 (eV j) (eC (.str "abcdefghijklmnopqrstuvwxyz")) inF))] allF ρ = .ok (.val (.bl (letB s))) ρw := by
  have hlt : s.cps.toList.length ≤ 16777216 := by simp only [Str.length] at h; simpa using (by omega : s.cps.size ≤ 16777216)
  have w1 : ∀ ρ : DEnv, wipeD ρ [j] = ρ.set j none := fun ρ => rfl
  have hm := eLc_map (it := it) (ρ := ρ) (vs := [j]) (t := tgN 1 j) (f := (e2 (eV j) (eC (.str "abcdefghijklmnopqrstuvwxyz")) inF)) (ρw := ρw) (ρ1 := ρw) (ds := s.cps.toList.map fun c => D.str ⟨#[c]⟩) (fun d => match d with | .str z => .bl (z.cps.toList.all fun c => decide (c ∈ lowS.cps.toList)) | _ => .non) hi (by rw [w1, hj]) (by simpa using hlt) fun d hd => by
    obtain ⟨c, hc, rfl⟩ := List.mem_map.mp hd
    have g : (ρw.set j (some (false, .str ⟨#[c]⟩)))[j]? = some (some (false, .str ⟨#[c]⟩)) := List.getElem?_set_self hl
    refine ⟨ρw.set j (some (false, .str ⟨#[c]⟩)), .val (.bl (decide (c ∈ lowS.cps.toList))), ρw.set j (some (false, .str ⟨#[c]⟩)), ρw.set j (some (false, .str ⟨#[c]⟩)), hw _, e2_ok (eV_ok g) (b := .val (.str "abcdefghijklmnopqrstuvwxyz")) rfl (look_at g) rfl rfl, ?_, ?_⟩
    · simp [takeO]
    · rw [w1, List.set_set, hj]
  refine eB_ok (eA_cons hm eA_nil) rfl ?_
  have e : (((s.cps.toList.map fun c => D.str ⟨#[c]⟩).map fun d => match d with | .str z => D.bl (z.cps.toList.all fun c => decide (c ∈ lowS.cps.toList)) | _ => D.non)) = (s.cps.toList.map fun c => decide (c ∈ lowS.cps.toList)).map D.bl := by
    rw [List.map_map, List.map_map]
    refine List.map_congr_left fun c _ => ?_
    simp
  rw [e, allF_map]
  unfold letB
  congr 3
  rw [List.all_map]; rfl
def stepS (P : List Pl) : Option Pl → Option (List Pl)
  | none => none
  | some p => if P.length = 6 ∨ canS P p = false then none else some (P ++ [p])
def goL : List Pl → Int → List (Option Pl) → Except Int (List Pl)
  | P, _, [] => .ok P
  | P, k, o :: os => match stepS P o with
    | none => .error k
    | some P' => goL P' (k + 1) os
theorem goS_goL : ∀ (os : List (Option Pl)) (P : List Pl) (k : Int), goS P k os = match goL P k os with | .error j => .error j | .ok P' => if P'.length < 2 then .error 2 else .ok P'
  | [], P, k => rfl
  | none :: os, P, k => rfl
  | some p :: os, P, k => by
    unfold goS goL stepS
    dsimp only
    by_cases h : P.length = 6 ∨ canS P p = false
    · rw [if_pos h, if_pos h]
    · rw [if_neg h, if_neg h]
      exact goS_goL os (P ++ [p]) (k + 1)
theorem canS_split : ∀ (P : List Pl) (p : Pl), canS P p = (!decide (p.1 ∈ P.map fun q : Pl => q.1) && !decide (p.2 ∈ P.map fun q : Pl => q.2))
  | [], p => by simp [canS]
  | q :: P, p => by
    have ih := canS_split P p
    obtain ⟨n, x, y⟩ := p
    obtain ⟨m, u, v⟩ := q
    unfold canS at ih ⊢
    rw [List.all_cons, ih]
    unfold offB
    simp only [List.map_cons, List.mem_cons, Prod.mk.injEq]
    grind
abbrev wlB : M Fl := (sSeq (sAsg 1 6 (eM1 (eV 5) (eC (.str " ")) splitF)) (sSeq (sIf (tOr' (tV (e2 (eB [(eV 6)] lenF) (eC (.int 4)) neF)) (tOr' (tV (e2 (e2 (eV 6) (eC (.int 0)) ixF) (eC (.str "place")) neF)) (tOr' (tNot' (tV (eCh (eC (.int 1)) (eB [(e2 (eV 6) (eC (.int 1)) ixF)] lenF) (eC (.int 8)) leF leF))) (tV (e2 (eB [(eV 1)] lenF) (eC (.int 5)) gtF))))) (sRet 1 (e2 (eV 4) (eC (.int 1)) addF)) sNil) (sSeq (sIf (tOr' (tNot' (tV (eB [(eLc (iOf anyK (e2 (eV 6) (eC (.int 1)) ixF)) [9] (tgN 1 9) tYes' (e2 (eV 9) (eC (.str "abcdefghijklmnopqrstuvwxyz")) inF))] allF))) (tV (e2 (e2 (eV 6) (eC (.int 1)) ixF) (eV 1) inF))) (sRet 1 (e2 (eV 4) (eC (.int 1)) addF)) sNil) (sSeq (sPar 1 7 8 (eCall 1 3 m_law_number_in [(e2 (eV 6) (eC (.int 2)) ixF)]) (eCall 1 3 m_law_number_in [(e2 (eV 6) (eC (.int 3)) ixF)])) (sSeq (sIf (tOr' (tV (e2 (eC (.int 99)) (eTup [(eV 7), (eV 8)]) inF)) (tV (e2 (eTup [(eV 7), (eV 8)]) (eV 2) inF))) (sRet 1 (e2 (eV 4) (eC (.int 1)) addF)) sNil) (sSeq (sExpr (eMut "list" 1 [(e2 (eV 6) (eC (.int 1)) ixF)] appF)) (sExpr (eMut "list" 2 [(eTup [(eV 7), (eV 8)])] appF))))))))
abbrev wlT1 : M Bool := (tOr' (tV (e2 (eB [(eV 6)] lenF) (eC (.int 4)) neF)) (tOr' (tV (e2 (e2 (eV 6) (eC (.int 0)) ixF) (eC (.str "place")) neF)) (tOr' (tNot' (tV (eCh (eC (.int 1)) (eB [(e2 (eV 6) (eC (.int 1)) ixF)] lenF) (eC (.int 8)) leF leF))) (tV (e2 (eB [(eV 1)] lenF) (eC (.int 5)) gtF)))))
abbrev wlT2 : M Bool := (tOr' (tNot' (tV (eB [(eLc (iOf anyK (e2 (eV 6) (eC (.int 1)) ixF)) [9] (tgN 1 9) tYes' (e2 (eV 9) (eC (.str "abcdefghijklmnopqrstuvwxyz")) inF))] allF))) (tV (e2 (e2 (eV 6) (eC (.int 1)) ixF) (eV 1) inF)))
abbrev wlT3 : M Bool := (tOr' (tV (e2 (eC (.int 99)) (eTup [(eV 7), (eV 8)]) inF)) (tV (e2 (eTup [(eV 7), (eV 8)]) (eV 2) inF)))
abbrev nmsL (P : List Pl) : D := .lst ((P.map fun q : Pl => q.1).map D.str)
abbrev ptsL (P : List Pl) : D := .lst ((P.map fun q : Pl => q.2).map ptD)
def envL (tx NL PL RW : D) (b3 : Bool) (x4 x5 x6 x7 x8 : DL.Slot) : DEnv := [some (false, tx), some (true, NL), some (true, PL), some (b3, RW), x4, x5, x6, x7, x8, none]
theorem ret_next (tx NL PL RW : D) (b3 : Bool) (k : Int) (x5 x6 x7 x8 : DL.Slot) : sRet 1 (e2 (eV 4) (eC (.int 1)) addF) (envL tx NL PL RW b3 (some (false, .int k)) x5 x6 x7 x8) = .ok (.rt (.val (.int (k + 1)))) (envL tx NL PL RW b3 (some (false, .int k)) x5 x6 x7 x8) :=
  sRet_ok (e2_ok (eV_ok rfl) (b := .val (.int 1)) rfl rfl rfl rfl) rfl
theorem readL_4 {l w0 w1 w2 w3 : Str} (e : Txt.split l " " = [w0, w1, w2, w3]) : readL l = if w0 = "place" ∧ nameB w1 = true ∧ numI w2 ≠ 99 ∧ numI w3 ≠ 99 then some (w1, numI w2, numI w3) else none := by
  unfold readL
  rw [e]; rfl
theorem readL_no {l : Str} (h4 : (Txt.split l " ").length ≠ 4) : readL l = none := by
  unfold readL
  match hE : Txt.split l " " with
  | [] => rfl
  | [_] => rfl
  | [_, _] => rfl
  | [_, _, _] => rfl
  | [_, _, _, _] => rw [hE] at h4; exact absurd rfl h4
  | _ :: _ :: _ :: _ :: _ :: _ => rfl
theorem in99 (x y : Int) : inF (.int 99) (.tup [.int x, .int y]) = some (.val (.bl (decide (x = 99) || decide (y = 99)))) := by
  show some (Opd.val (.bl ((x == 99) || ((y == 99) || false)))) = _
  rw [Bool.or_false]
  rfl
theorem app_ok {xs : List D} {d : D} (h : xs.length < 16777216) : appF (.lst xs) [d] = some (.lst (xs ++ [d]), .non) := if_pos h
/-- one line -/
theorem wl_step (tx RW : D) (b3 : Bool) {l : Str} (hl : PyData.strOk l = true) (h5 : l.length ≤ 500) {P : List Pl} (hP : ∀ q ∈ P, PyData.strOk q.1 = true) (h6 : P.length ≤ 6) (k : Int) (x6 x7 x8 : DL.Slot) :
    ∃ y6 y7 y8, wlB (envL tx (nmsL P) (ptsL P) RW b3 (some (false, .int k)) (some (false, .str l)) x6 x7 x8) = match stepS P (readL l) with
      | none => .ok (.rt (.val (.int (k + 1)))) (envL tx (nmsL P) (ptsL P) RW b3 (some (false, .int k)) (some (false, .str l)) y6 y7 y8)
      | some P' => .ok .nx (envL tx (nmsL P') (ptsL P') RW b3 (some (false, .int k)) (some (false, .str l)) y6 y7 y8) := by
  have ol : okS l := ⟨hl, by omega⟩
  let ρ0 : DL.Slot → DL.Slot → DL.Slot → DEnv := fun a b c => envL tx (nmsL P) (ptsL P) RW b3 (some (false, .int k)) (some (false, .str l)) a b c
  let W : DL.Slot := some (true, .lst ((Txt.split l " ").map D.str))
  have a1 : sAsg 1 6 (eM1 (eV 5) (eC (.str " ")) splitF) (ρ0 x6 x7 x8) = .ok .nx (ρ0 W x7 x8) := by
    refine sAsg_ok (o := .own (.lst ((Txt.split l " ").map D.str))) (ρ1 := ρ0 x6 x7 x8) ?_ rfl rfl
    show (nrm (eV 5) (ρ0 x6 x7 x8)).bind _ = _
    rw [nrm_eV (x := (false, .str l)) rfl, R.bind_ok]
    show (match splitF (.str l) (.str " ") with | some o => R.ok o (ρ0 x6 x7 x8) | none => R.bad) = _
    rw [split_ok ol]
  have c1 : tV (e2 (eB [(eV 6)] lenF) (eC (.int 4)) neF) (ρ0 W x7 x8) = .ok (!decide ((Txt.split l " ").length = 4)) (ρ0 W x7 x8) := by
    have e : neF (.int (((Txt.split l " ").map D.str).length : Nat)) (.int 4) = some (.val (.bl (!decide ((Txt.split l " ").length = 4)))) := by
      rw [neF_int, List.length_map]
      congr 4
      exact decide_eq_decide.mpr (by omega)
    exact tV_ok (e2_ok (eB_ok (eA_cons (eV_ok rfl) eA_nil) rfl rfl) (b := .val (.int 4)) rfl rfl rfl e) rfl
  by_cases h4 : (Txt.split l " ").length = 4
  · rw [decide_eq_true h4] at c1
    obtain ⟨w0, w1, w2, w3, e⟩ : ∃ w0 w1 w2 w3, Txt.split l " " = [w0, w1, w2, w3] := by
      match hE : Txt.split l " ", h4 with
      | [a, b, c, d], _ => exact ⟨a, b, c, d, rfl⟩
    have ok : ∀ w ∈ [w0, w1, w2, w3], PyData.strOk w = true ∧ w.length ≤ 500 := fun w hw => by
      obtain ⟨a, b⟩ := words_ok hl (e ▸ hw)
      exact ⟨a, by omega⟩
    obtain ⟨o0, b0⟩ := ok w0 (by simp)
    obtain ⟨o1, b1⟩ := ok w1 (by simp)
    obtain ⟨o2, b2⟩ := ok w2 (by simp)
    obtain ⟨o3, b3'⟩ := ok w3 (by simp)
    have er := readL_4 e
    have eW : W = some (true, .lst [.str w0, .str w1, .str w2, .str w3]) := by show some (true, D.lst ((Txt.split l " ").map D.str)) = _; rw [e]; rfl
    clear_value W
    subst eW
    let ρ : DL.Slot → DL.Slot → DEnv := fun b c => ρ0 (some (true, .lst [.str w0, .str w1, .str w2, .str w3])) b c
    have g1 : ∀ b c, e2 (eV 6) (eC (.int 1)) ixF (ρ b c) = .ok (.val (.str w1)) (ρ b c) := fun b c => e2_ok (eV_ok rfl) (b := .val (.int 1)) rfl rfl rfl rfl
    have c2 : tV (e2 (e2 (eV 6) (eC (.int 0)) ixF) (eC (.str "place")) neF) (ρ x7 x8) = .ok (!decide (w0 = "place")) (ρ x7 x8) :=
      tV_ok (e2_ok (e2_ok (eV_ok rfl) (b := .val (.int 0)) rfl rfl rfl rfl) (b := .val (.str "place")) rfl rfl rfl (neF_str ⟨o0, by omega⟩ okPlace)) rfl
    have ln : eB [(e2 (eV 6) (eC (.int 1)) ixF)] lenF (ρ x7 x8) = .ok (.val (.int w1.length)) (ρ x7 x8) := eB_ok (eA_cons (g1 _ _) eA_nil) rfl (len_str (by omega))
    have leq : ∀ a b : Int, leF (.int a) (.int b) = some (.val (.bl (decide (a ≤ b)))) := fun _ _ => rfl
    have c3 : tNot' (tV (eCh (eC (.int 1)) (eB [(e2 (eV 6) (eC (.int 1)) ixF)] lenF) (eC (.int 8)) leF leF)) (ρ x7 x8) = .ok (!(decide (1 ≤ w1.length) && decide (w1.length ≤ 8))) (ρ x7 x8) := by
      by_cases hl1 : 1 ≤ w1.length
      · have := eCh_ok (f := eC (.int 1)) (h := eC (.int 8)) (a := .val (.int 1)) (c := .val (.int 8)) (F := leF) (F' := leF) rfl ln rfl rfl (by rw [leq, decide_eq_true (by omega : (1 : Int) ≤ (w1.length : Int))]) rfl rfl rfl (leq _ _)
        rw [decide_eq_true hl1, Bool.true_and, ← decide_eq_decide.mpr (show (w1.length : Int) ≤ 8 ↔ w1.length ≤ 8 by omega)]
        exact tNot_ok (tV_ok this rfl)
      · have := eCh_no (f := eC (.int 1)) (h := eC (.int 8)) (a := .val (.int 1)) (F := leF) (F' := leF) rfl ln rfl rfl (by rw [leq, decide_eq_false (by omega : ¬ (1 : Int) ≤ (w1.length : Int))])
        rw [decide_eq_false hl1]
        exact tNot_ok (c := false) (tV_ok this rfl)
    have c4 : tV (e2 (eB [(eV 1)] lenF) (eC (.int 5)) gtF) (ρ x7 x8) = .ok (decide (P.length = 6)) (ρ x7 x8) := by
      have e : gtF (.int (((P.map fun q : Pl => q.1).map D.str).length : Nat)) (.int 5) = some (.val (.bl (decide (P.length = 6)))) := by
        show some (Opd.val (.bl (decide ((((P.map fun q : Pl => q.1).map D.str).length : Int) > 5)))) = _
        rw [List.length_map, List.length_map]
        congr 3
        exact decide_eq_decide.mpr (by omega)
      exact tV_ok (e2_ok (eB_ok (ds := [nmsL P]) (eA_cons (eV_ok rfl) eA_nil) rfl rfl) (b := .val (.int 5)) rfl rfl rfl e) rfl
    have out1 : wlT1 (ρ x7 x8) = .ok true (ρ x7 x8) → ∀ {r}, r = .ok (.rt (.val (.int (k + 1)))) (ρ x7 x8) → wlB (ρ0 x6 x7 x8) = r := fun h {r} hr => by
      rw [hr]
      exact (sSeq_nx a1).trans (sSeq_rt ((sIf_ok h).trans (ret_next _ _ _ _ _ _ _ _ _ _)))
    by_cases hp : w0 = "place"
    · rw [decide_eq_true hp] at c2
      by_cases hn : (decide (1 ≤ w1.length) && decide (w1.length ≤ 8)) = true
      · rw [hn] at c3
        by_cases hf : P.length = 6
        · rw [decide_eq_true hf] at c4
          refine ⟨some (true, .lst [.str w0, .str w1, .str w2, .str w3]), x7, x8, out1 ((tOr_f c1).trans ((tOr_f c2).trans ((tOr_f c3).trans c4))) ?_⟩
          have : stepS P (readL l) = none := by
            cases readL l with
            | none => rfl
            | some p => exact if_pos (.inl hf)
          rw [this]
        · rw [decide_eq_false hf] at c4
          have n1 := (sSeq_nx (s2 := (sSeq (sIf wlT2 (sRet 1 (e2 (eV 4) (eC (.int 1)) addF)) sNil) (sSeq (sPar 1 7 8 (eCall 1 3 m_law_number_in [(e2 (eV 6) (eC (.int 2)) ixF)]) (eCall 1 3 m_law_number_in [(e2 (eV 6) (eC (.int 3)) ixF)])) (sSeq (sIf wlT3 (sRet 1 (e2 (eV 4) (eC (.int 1)) addF)) sNil) (sSeq (sExpr (eMut "list" 1 [(e2 (eV 6) (eC (.int 1)) ixF)] appF)) (sExpr (eMut "list" 2 [(eTup [(eV 7), (eV 8)])] appF))))))) ((sIf_ok (s1 := (sRet 1 (e2 (eV 4) (eC (.int 1)) addF))) (s2 := sNil) ((tOr_f c1).trans ((tOr_f c2).trans ((tOr_f c3).trans c4)))).trans (rfl : _ = R.ok Fl.nx (ρ x7 x8))))
          have st1 : wlB (ρ0 x6 x7 x8) = _ := (sSeq_nx a1).trans n1
          have lt := lets_all (s := w1) (by omega) (it := iOf anyK (e2 (eV 6) (eC (.int 1)) ixF)) (ρ := ρ x7 x8) (ρw := ρ x7 x8) (j := 9) (by
            show (e2 (eV 6) (eC (.int 1)) ixF (ρ x7 x8)).bind _ = _
            rw [g1]; rfl) (fun d => rfl) rfl (by show 9 < 10; decide)
          have d1 : tNot' (tV (eB [(eLc (iOf anyK (e2 (eV 6) (eC (.int 1)) ixF)) [9] (tgN 1 9) tYes' (e2 (eV 9) (eC (.str "abcdefghijklmnopqrstuvwxyz")) inF))] allF)) (ρ x7 x8) = .ok (!letB w1) (ρ x7 x8) := tNot_ok (tV_ok lt rfl)
          have nmOk : ∀ n ∈ (P.map fun q : Pl => q.1), PyData.strOk n = true := fun n hn => by
            obtain ⟨q, hq, rfl⟩ := List.mem_map.mp hn
            exact hP q hq
          have d2 : tV (e2 (e2 (eV 6) (eC (.int 1)) ixF) (eV 1) inF) (ρ x7 x8) = .ok (decide (w1 ∈ P.map fun q : Pl => q.1)) (ρ x7 x8) := by
            have i : inF (.str w1) (nmsL P) = some (.val (.bl (decide (w1 ∈ P.map fun q : Pl => q.1)))) := by
              unfold inF
              rw [inB_strs nmOk o1, any_mem]; rfl
            exact tV_ok (e2_ok (g1 _ _) (eV_ok rfl) rfl rfl i) rfl
          have out2 : wlT2 (ρ x7 x8) = .ok true (ρ x7 x8) → ∀ {r}, r = .ok (.rt (.val (.int (k + 1)))) (ρ x7 x8) → wlB (ρ0 x6 x7 x8) = r := fun h {r} hr => by
            rw [hr]
            exact st1.trans (sSeq_rt ((sIf_ok h).trans (ret_next _ _ _ _ _ _ _ _ _ _)))
          cases hlb : letB w1 with
          | false =>
            rw [hlb] at d1
            refine ⟨some (true, .lst [.str w0, .str w1, .str w2, .str w3]), x7, x8, out2 (tOr_t d1) ?_⟩
            have : readL l = none := by
              rw [er]
              refine if_neg fun z => ?_
              have : nameB w1 = false := by unfold nameB; rw [hn]; exact hlb
              rw [this] at z; cases z.2.1
            rw [this]; rfl
          | true =>
            rw [hlb] at d1
            have hnb : nameB w1 = true := by unfold nameB; rw [hn]; exact hlb
            by_cases hm : w1 ∈ P.map fun q : Pl => q.1
            · rw [decide_eq_true hm] at d2
              refine ⟨some (true, .lst [.str w0, .str w1, .str w2, .str w3]), x7, x8, out2 ((tOr_f d1).trans d2) ?_⟩
              have : stepS P (readL l) = none := by
                rw [er]
                split
                · refine if_pos (.inr ?_)
                  rw [canS_split, decide_eq_true hm]; rfl
                · rfl
              rw [this]
            · rw [decide_eq_false hm] at d2
              let ρ2 := ρ (some (false, .int (numI w2))) (some (false, .int (numI w3)))
              have f2 : eCall 1 3 m_law_number_in [(e2 (eV 6) (eC (.int 2)) ixF)] (ρ x7 x8) = .ok (.val (.int (numI w2))) (ρ x7 x8) :=
                call_val (os := [.val (.str w2)]) (ρa := [some (false, .str w2)]) (eA_cons (e2_ok (eV_ok rfl) (b := .val (.int 2)) rfl rfl rfl (o := .val (.str w2)) rfl) eA_nil) rfl rfl rfl (number_run o2)
              have f3 : eCall 1 3 m_law_number_in [(e2 (eV 6) (eC (.int 3)) ixF)] (ρ x7 x8) = .ok (.val (.int (numI w3))) (ρ x7 x8) :=
                call_val (os := [.val (.str w3)]) (ρa := [some (false, .str w3)]) (eA_cons (e2_ok (eV_ok rfl) (b := .val (.int 3)) rfl rfl rfl (o := .val (.str w3)) rfl) eA_nil) rfl rfl rfl (number_run o3)
              have a2 : (sPar 1 7 8 (eCall 1 3 m_law_number_in [(e2 (eV 6) (eC (.int 2)) ixF)]) (eCall 1 3 m_law_number_in [(e2 (eV 6) (eC (.int 3)) ixF)])) (ρ x7 x8) = .ok .nx ρ2 := sPar_ok f2 f3 rfl rfl rfl rfl
              have st2 := st1.trans ((sSeq_nx ((sIf_ok ((tOr_f d1).trans d2)).trans (rfl : _ = R.ok Fl.nx (ρ x7 x8)))).trans (sSeq_nx a2))
              have tp : eTup [(eV 7), (eV 8)] ρ2 = .ok (.val (ptD (numI w2, numI w3))) ρ2 := eTup_ok (eA_cons (eV_ok rfl) (eA_cons (eV_ok rfl) eA_nil)) rfl (Nat.le_of_ble_eq_true rfl)
              have t1 : tV (e2 (eC (.int 99)) (eTup [(eV 7), (eV 8)]) inF) ρ2 = .ok (decide (numI w2 = 99) || decide (numI w3 = 99)) ρ2 := tV_ok (e2_ok (a := .val (.int 99)) rfl tp rfl rfl (in99 _ _)) rfl
              have t2 : tV (e2 (eTup [(eV 7), (eV 8)]) (eV 2) inF) ρ2 = .ok (decide ((numI w2, numI w3) ∈ P.map fun q : Pl => q.2)) ρ2 := by
                have i : inF (ptD (numI w2, numI w3)) (ptsL P) = some (.val (.bl (decide ((numI w2, numI w3) ∈ P.map fun q : Pl => q.2)))) := by
                  unfold inF
                  rw [inB_pts]; rfl
                exact tV_ok (e2_ok tp (eV_ok rfl) rfl rfl i) rfl
              have out3 : wlT3 ρ2 = .ok true ρ2 → ∀ {r}, r = .ok (.rt (.val (.int (k + 1)))) ρ2 → wlB (ρ0 x6 x7 x8) = r := fun h {r} hr => by
                rw [hr]
                exact st2.trans (sSeq_rt ((sIf_ok h).trans (ret_next _ _ _ _ _ _ _ _ _ _)))
              cases h99 : (decide (numI w2 = 99) || decide (numI w3 = 99)) with
              | true =>
                rw [h99] at t1
                refine ⟨some (true, .lst [.str w0, .str w1, .str w2, .str w3]), some (false, .int (numI w2)), some (false, .int (numI w3)), out3 (tOr_t t1) ?_⟩
                have : readL l = none := by
                  rw [er]
                  refine if_neg fun z => ?_
                  rcases Bool.or_eq_true_iff.mp h99 with h | h
                  · exact z.2.2.1 (of_decide_eq_true h)
                  · exact z.2.2.2 (of_decide_eq_true h)
                rw [this]; rfl
              | false =>
                rw [h99] at t1
                obtain ⟨n2, n3⟩ := Bool.or_eq_false_iff.mp h99
                rw [if_pos ⟨hp, hnb, of_decide_eq_false n2, of_decide_eq_false n3⟩] at er
                by_cases hq : (numI w2, numI w3) ∈ P.map fun q : Pl => q.2
                · rw [decide_eq_true hq] at t2
                  refine ⟨some (true, .lst [.str w0, .str w1, .str w2, .str w3]), some (false, .int (numI w2)), some (false, .int (numI w3)), out3 ((tOr_f t1).trans t2) ?_⟩
                  have : stepS P (readL l) = none := by
                    rw [er]
                    refine if_pos (.inr ?_)
                    rw [canS_split, decide_eq_true hq]; simp
                  rw [this]
                · rw [decide_eq_false hq] at t2
                  have st3 := st2.trans (sSeq_nx ((sIf_ok ((tOr_f t1).trans t2)).trans (rfl : _ = R.ok Fl.nx ρ2)))
                  have hs : stepS P (readL l) = some (P ++ [(w1, numI w2, numI w3)]) := by
                    rw [er]
                    refine if_neg fun z => z.elim hf fun z => ?_
                    rw [canS_split, decide_eq_false hm, decide_eq_false hq] at z
                    cases z
                  rw [hs]
                  have q1 : nmsL (P ++ [(w1, numI w2, numI w3)]) = .lst ((P.map fun q : Pl => q.1).map D.str ++ [.str w1]) := by
                    show D.lst _ = _
                    rw [List.map_append, List.map_append]; rfl
                  have q2 : ptsL (P ++ [(w1, numI w2, numI w3)]) = .lst ((P.map fun q : Pl => q.2).map ptD ++ [ptD (numI w2, numI w3)]) := by
                    show D.lst _ = _
                    rw [List.map_append, List.map_append]; rfl
                  dsimp only
                  rw [q1, q2]
                  have l1 : ((P.map fun q : Pl => q.1).map D.str).length < 16777216 := by rw [List.length_map, List.length_map]; omega
                  have l2 : ((P.map fun q : Pl => q.2).map ptD).length < 16777216 := by rw [List.length_map, List.length_map]; omega
                  have m1 : eMut "list" 1 [(e2 (eV 6) (eC (.int 1)) ixF)] appF ρ2 = .ok (.val .non) (envL tx (.lst ((P.map fun q : Pl => q.1).map D.str ++ [.str w1])) (ptsL P) RW b3 (some (false, .int k)) (some (false, .str l)) (some (true, .lst [.str w0, .str w1, .str w2, .str w3])) (some (false, .int (numI w2))) (some (false, .int (numI w3)))) :=
                    eMut_ok (d := nmsL P) (d' := nmsL P) rfl rfl (eA_cons (g1 _ _) eA_nil) rfl rfl (app_ok l1)
                  let ρ3 : D → DEnv := fun PL => envL tx (.lst ((P.map fun q : Pl => q.1).map D.str ++ [.str w1])) PL RW b3 (some (false, .int k)) (some (false, .str l)) (some (true, .lst [.str w0, .str w1, .str w2, .str w3])) (some (false, .int (numI w2))) (some (false, .int (numI w3)))
                  have tp3 : eA [(eTup [(eV 7), (eV 8)])] (ρ3 (ptsL P)) = .ok [.val (ptD (numI w2, numI w3))] (ρ3 (ptsL P)) := eA_cons (o := .val (ptD (numI w2, numI w3))) (eTup_ok (eA_cons (eV_ok rfl) (eA_cons (eV_ok rfl) eA_nil)) rfl (Nat.le_of_ble_eq_true rfl)) eA_nil
                  have m2 : eMut "list" 2 [(eTup [(eV 7), (eV 8)])] appF (ρ3 (ptsL P)) = .ok (.val .non) (ρ3 (.lst ((P.map fun q : Pl => q.2).map ptD ++ [ptD (numI w2, numI w3)]))) :=
                    eMut_ok (d := ptsL P) (d' := ptsL P) rfl rfl tp3 rfl rfl (app_ok l2)
                  exact ⟨some (true, .lst [.str w0, .str w1, .str w2, .str w3]), some (false, .int (numI w2)), some (false, .int (numI w3)), st3.trans ((sSeq_nx (sExpr_ok m1)).trans (sExpr_ok m2))⟩
      · have hn' : (decide (1 ≤ w1.length) && decide (w1.length ≤ 8)) = false := by simpa using hn
        rw [hn'] at c3
        refine ⟨some (true, .lst [.str w0, .str w1, .str w2, .str w3]), x7, x8, out1 ((tOr_f c1).trans ((tOr_f c2).trans (tOr_t c3))) ?_⟩
        have : readL l = none := by
          rw [er]
          refine if_neg fun z => ?_
          have : nameB w1 = false := by unfold nameB; rw [hn']; rfl
          rw [this] at z; cases z.2.1
        rw [this]; rfl
    · rw [decide_eq_false hp] at c2
      refine ⟨some (true, .lst [.str w0, .str w1, .str w2, .str w3]), x7, x8, out1 ((tOr_f c1).trans (tOr_t c2)) ?_⟩
      have : readL l = none := by rw [er]; exact if_neg fun z => hp z.1
      rw [this]; rfl
  · rw [decide_eq_false h4] at c1
    refine ⟨W, x7, x8, ?_⟩
    rw [readL_no h4]
    exact (sSeq_nx a1).trans (sSeq_rt ((sIf_ok (tOr_t c1)).trans (ret_next _ _ _ _ _ _ _ _ _ _)))
end K02

set_option Elab.async false
set_option linter.all false
set_option maxRecDepth 100000
set_option maxHeartbeats 1000000
set_option exponentiation.threshold 10000
namespace K02
open PySem PySem.Spec L2 DL
open PyProof.Rows hiding St
theorem loop_rt {tg : Tg} {d : D} {ds : List D} {s1 : M Fl} {ρ ρ1 ρ2 : DEnv} {o : Opd} (ht : tg d ρ = some ρ1) (hb : s1 ρ1 = .ok (.rt o) ρ2) : loopF tg s1 (d :: ds) ρ = .ok (.rt o) ρ2 := by
  unfold loopF
  rw [ht]; dsimp only; rw [hb]; rfl
theorem stepS_ok {P P' : List Pl} {o : Option Pl} (h : stepS P o = some P') (ho : ∀ p, o = some p → okS p.1) (hP : ∀ q ∈ P, PyData.strOk q.1 = true) (h6 : P.length ≤ 6) : (∀ q ∈ P', PyData.strOk q.1 = true) ∧ P'.length ≤ 6 := by
  cases o with
  | none => cases h
  | some p =>
    have h : (if P.length = 6 ∨ canS P p = false then none else some (P ++ [p])) = some P' := h
    split at h
    · cases h
    · rename_i hn
      cases h
      refine ⟨fun q hq => ?_, ?_⟩
      · rcases List.mem_append.mp hq with hq | hq
        · exact hP q hq
        · rw [List.mem_singleton.mp hq]; exact (ho p rfl).1
      · rw [List.length_append, List.length_singleton]
        have : P.length ≠ 6 := fun z => hn (.inl z)
        omega
theorem wl_loop (tx RW : D) (b3 : Bool) : ∀ (ls : List Str) (j : Nat) (P : List Pl), (∀ l ∈ ls, PyData.strOk l = true ∧ l.length ≤ 500) → (∀ q ∈ P, PyData.strOk q.1 = true) → P.length ≤ 6 → ∀ x4 x5 x6 x7 x8 : DL.Slot,
    (∃ k ρ', goL P (1 + (j : Nat)) (ls.map readL) = .error k ∧ loopF (tgA 2 [(tgN 1 4), (tgN 1 5)]) wlB (((ls.map D.str).zipIdx j).map fun z => .tup [.int (0 + (z.2 : Nat)), z.1]) (envL tx (nmsL P) (ptsL P) RW b3 x4 x5 x6 x7 x8) = .ok (.rt (.val (.int k))) ρ') ∨
    (∃ P' y4 y5 y6 y7 y8, goL P (1 + (j : Nat)) (ls.map readL) = .ok P' ∧ loopF (tgA 2 [(tgN 1 4), (tgN 1 5)]) wlB (((ls.map D.str).zipIdx j).map fun z => .tup [.int (0 + (z.2 : Nat)), z.1]) (envL tx (nmsL P) (ptsL P) RW b3 x4 x5 x6 x7 x8) = .ok .nx (envL tx (nmsL P') (ptsL P') RW b3 y4 y5 y6 y7 y8))
  | [], j, P, _, _, _, x4, x5, x6, x7, x8 => .inr ⟨P, x4, x5, x6, x7, x8, rfl, rfl⟩
  | l :: ls, j, P, hl, hP, h6, x4, x5, x6, x7, x8 => by
    obtain ⟨l1, l2⟩ := hl l List.mem_cons_self
    have tg : tgA 2 [(tgN 1 4), (tgN 1 5)] (.tup [.int (0 + (j : Nat)), .str l]) (envL tx (nmsL P) (ptsL P) RW b3 x4 x5 x6 x7 x8) = some (envL tx (nmsL P) (ptsL P) RW b3 (some (false, .int (0 + (j : Nat)))) (some (false, .str l)) x6 x7 x8) := by
      cases x4 <;> cases x5 <;> rfl
    obtain ⟨y6, y7, y8, e⟩ := wl_step tx RW b3 l1 l2 hP h6 (0 + (j : Nat)) x6 x7 x8
    have hk : (0 : Int) + (j : Nat) + 1 = 1 + (j : Nat) := by omega
    rw [hk] at e
    rw [List.map_cons, List.map_cons, List.zipIdx_cons, List.map_cons]
    cases hs : stepS P (readL l) with
    | none =>
      rw [hs] at e
      refine .inl ⟨1 + (j : Nat), _, ?_, loop_rt tg e⟩
      show (match stepS P (readL l) with | none => _ | some P' => _) = _
      rw [hs]
    | some P' =>
      rw [hs] at e
      obtain ⟨hP', h6'⟩ := stepS_ok hs (place_any l1 l2).1 hP h6
      have hg : goL P (1 + (j : Nat)) (readL l :: ls.map readL) = goL P' (1 + ((j + 1 : Nat))) (ls.map readL) := by
        show (match stepS P (readL l) with | none => _ | some P' => goL P' (1 + (j : Nat) + 1) (ls.map readL)) = _
        rw [hs]
        show goL P' (1 + (j : Nat) + 1) _ = _
        congr 1
      rw [hg]
      rcases wl_loop tx RW b3 ls (j + 1) P' (fun z hz => hl z (List.mem_cons_of_mem _ hz)) hP' h6' (some (false, .int (0 + (j : Nat)))) (some (false, .str l)) y6 y7 y8 with ⟨k, ρ', g, w⟩ | ⟨P2, z4, z5, z6, z7, z8, g, w⟩
      · exact .inl ⟨k, ρ', g, loop_cons tg e w⟩
      · exact .inr ⟨P2, z4, z5, z6, z7, z8, g, loop_cons tg e w⟩
/-- the number of the line that is none, or 0 -/
def wrI (t : Str) : Int := match goS [] 1 ((Txt.split t "\n").map readL) with
  | .error k => k
  | .ok _ => 0
theorem wrong_run {t : Str} (ok : okS t) (hl : ∀ l ∈ Txt.split t "\n", l.length ≤ 500) : ∃ ρ', m_law_wrong_line [some (false, .str t), none, none, none, none, none, none, none, none, none] = .ok (.rt (.val (.int (wrI t)))) ρ' := by
  have hl' : ∀ l ∈ Txt.split t "\n", PyData.strOk l = true ∧ l.length ≤ 500 := fun l h => ⟨(lines_ok ok.1 h).1, hl l h⟩
  let RW : D := .lst ((Txt.split t "\n").map D.str)
  let ρ0 : DEnv := [some (false, .str t), none, none, none, none, none, none, none, none, none]
  have sp : eM1 (eV 0) (eC (.str "\n")) splitF ρ0 = .ok (.own RW) ρ0 := by
    have : splitF (.str t) (.str "\n") = some (.own RW) := by
      show (if _ then _ else _) = _
      rw [if_pos ⟨by decide +kernel, by have := ok.2; omega⟩]
    show (nrm (eV 0) ρ0).bind _ = _
    rw [nrm_eV (x := (false, .str t)) rfl, R.bind_ok]
    show (match splitF (.str t) (.str "\n") with | some o => R.ok o ρ0 | none => R.bad) = _
    rw [this]
  have a1 : (sPar3 1 1 2 3 (eLst []) (eLst []) (eM1 (eV 0) (eC (.str "\n")) splitF)) ρ0 = .ok .nx (envL (.str t) (.lst []) (.lst []) RW true none none none none none) :=
    sPar3_ok (o1 := .own (.lst [])) (o2 := .own (.lst [])) (o3 := .own RW) rfl rfl sp rfl rfl rfl rfl rfl rfl
  have it : iEn (eV 3) (envL (.str t) (.lst []) (.lst []) RW true none none none none none) = .ok (((Txt.split t "\n").map D.str).zipIdx.map fun z => .tup [.int (0 + (z.2 : Nat)), z.1]) (envL (.str t) (.lst []) (.lst []) RW false none none none none none) := rfl
  have gs := goS_goL ((Txt.split t "\n").map readL) [] 1
  have fin : ∀ {r : R Fl}, loopF (tgA 2 [(tgN 1 4), (tgN 1 5)]) wlB (((Txt.split t "\n").map D.str).zipIdx.map fun z => .tup [.int (0 + (z.2 : Nat)), z.1]) (envL (.str t) (.lst []) (.lst []) RW false none none none none none) = r → sFor (iEn (eV 3)) (tgA 2 [(tgN 1 4), (tgN 1 5)]) wlB (envL (.str t) (.lst []) (.lst []) RW true none none none none none) = r := fun h => sFor_ok it h
  rcases wl_loop (.str t) RW false (Txt.split t "\n") 0 [] hl' (fun q hq => absurd hq List.not_mem_nil) (by decide) none none none none none with ⟨k, ρ', g, w⟩ | ⟨P', y4, y5, y6, y7, y8, g, w⟩
  · have g' : goL [] 1 ((Txt.split t "\n").map readL) = .error k := g
    rw [g'] at gs
    refine ⟨ρ', ?_⟩
    have : wrI t = k := by unfold wrI; rw [gs]
    rw [this]
    unfold m_law_wrong_line
    exact (sSeq_nx a1).trans (sSeq_rt (fin w))
  · have g' : goL [] 1 ((Txt.split t "\n").map readL) = .ok P' := g
    rw [g'] at gs
    let ρ2 := envL (.str t) (nmsL P') (ptsL P') RW false y4 y5 y6 y7 y8
    have c : tV (e2 (eB [(eV 1)] lenF) (eC (.int 1)) gtF) ρ2 = .ok (!decide (P'.length < 2)) ρ2 := by
      have e : gtF (.int (((P'.map fun q : Pl => q.1).map D.str).length : Nat)) (.int 1) = some (.val (.bl (!decide (P'.length < 2)))) := by
        show some (Opd.val (.bl (decide ((((P'.map fun q : Pl => q.1).map D.str).length : Int) > 1)))) = _
        rw [List.length_map, List.length_map, ← decide_not]
        congr 3
        exact decide_eq_decide.mpr (by omega)
      exact tV_ok (e2_ok (eB_ok (ds := [nmsL P']) (eA_cons (eV_ok rfl) eA_nil) rfl rfl) (b := .val (.int 1)) rfl rfl rfl e) rfl
    refine ⟨ρ2, ?_⟩
    unfold m_law_wrong_line
    refine (sSeq_nx a1).trans ((sSeq_nx (fin w)).trans ?_)
    by_cases h2 : P'.length < 2
    · rw [decide_eq_true h2] at c
      have : wrI t = 2 := by unfold wrI; rw [gs]; dsimp only; rw [if_pos h2]
      rw [this]
      exact sRet_ok (o := .val (.int 2)) (ρ1 := ρ2) (((eIf_ok c).trans (if_neg Bool.false_ne_true)).trans rfl) rfl
    · rw [decide_eq_false h2] at c
      have : wrI t = 0 := by unfold wrI; rw [gs]; dsimp only; rw [if_neg h2]
      rw [this]
      exact sRet_ok (o := .val (.int 0)) (ρ1 := ρ2) (((eIf_ok c).trans (if_pos rfl)).trans rfl) rfl
theorem goS_bound : ∀ (os : List (Option Pl)) (P : List Pl) (k j : Int), goS P k os = .error j → j = 2 ∨ (k ≤ j ∧ j < k + os.length)
  | [], P, k, j, h => by
    have h : (if P.length < 2 then Except.error 2 else Except.ok P) = (Except.error j : Except Int (List Pl)) := h
    split at h
    · cases h; exact .inl rfl
    · cases h
  | none :: os, P, k, j, h => by
    have h : (Except.error k : Except Int (List Pl)) = .error j := h
    cases h
    rw [List.length_cons]
    exact .inr ⟨Int.le_refl _, by omega⟩
  | some p :: os, P, k, j, h => by
    have h : (if P.length = 6 ∨ canS P p = false then Except.error k else goS (P ++ [p]) (k + 1) os) = (Except.error j : Except Int (List Pl)) := h
    rw [List.length_cons]
    split at h
    · cases h
      exact .inr ⟨Int.le_refl _, by omega⟩
    · rcases goS_bound os _ _ _ h with h | ⟨a, b⟩
      · exact .inl h
      · exact .inr ⟨by omega, by omega⟩
theorem taken_any {t : Str} (ok : okS t) (hl : ∀ l ∈ Txt.split t "\n", l.length ≤ 500) : TakenR t (goS [] 1 ((Txt.split t "\n").map readL)) := by
  refine ⟨ok, _, ?_, rfl⟩
  have : ∀ ls : List Str, (∀ l ∈ ls, PyData.strOk l = true ∧ l.length ≤ 500) → Paired PlaceR ls (ls.map readL) := by
    intro ls
    induction ls with
    | nil => intro _; exact .nil
    | cons l ls ih =>
      intro h
      obtain ⟨a, b⟩ := h l List.mem_cons_self
      exact .cons (place_any a b) (ih fun z hz => h z (List.mem_cons_of_mem _ hz))
  exact this _ fun l h => ⟨(lines_ok ok.1 h).1, hl l h⟩
theorem repr_int {k : Int} (h : k.natAbs < 10 ^ 500) : reprF [.int k] = some (.val (.str (sI k))) := by
  have h2 : k.natAbs < 2 ^ 1900 := Nat.lt_of_lt_of_le h (by decide +kernel)
  have hs : (PyData.int k).showable = true := decide_eq_true (Nat.lt_of_lt_of_le (log2_lt h2 (by decide)) (by decide))
  have hb : (sI k).length ≤ 16777216 := by have := (sI_big h).2; omega
  exact if_pos ⟨hs, hb, by show (0 : Nat) ≤ 40; decide⟩
theorem arg1 {i : Nat} {ρ : DEnv} {x : Bool × D} (h : ρ[i]? = some (some x)) : argsS ([Opd.slot i] ++ ([] : List D).map Opd.val) ρ = some [some x] := by
  have a : argS (.slot i) ρ = some (some x) := by unfold argS; dsimp only; rw [h]
  show (match argS (.slot i) ρ, argsS [] ρ with | some x, some r => some (x :: r) | _, _ => none) = _
  rw [a]; rfl
/-- the law's judgement of any text -/
theorem judged_run {t : Str} (ok : okS t) (hl : ∀ l ∈ Txt.split t "\n", l.length ≤ 500) : ∃ ρ', m_law_is_judged [some (false, .str t), none, none, none] = .ok (.rt (.val (.bl true))) ρ' := by
  obtain ⟨ρw, ew⟩ := wrong_run ok hl
  have tk := taken_any ok hl
  let ρ : DL.Slot → DL.Slot → DL.Slot → DEnv := fun a b c => [some (false, .str t), a, b, c]
  let K : DL.Slot := some (false, .int (wrI t))
  have a1 : sAsg 1 1 (eCall 1 10 m_law_wrong_line [(eV 0)]) (ρ none none none) = .ok .nx (ρ K none none) :=
    sAsg_ok (call_val (os := [.slot 0]) (ρa := [some (false, .str t)]) (eA_cons (eV_ok rfl) eA_nil) rfl rfl rfl ew) rfl rfl
  have hf : ∀ ρ' : DEnv, ρ'[0]? = some (some (false, .str t)) → eTold errs (eMk "Town" 2 2 ini_Town [(eV 0)] []) ρ' = .ok (.val (toldQ (goS [] 1 ((Txt.split t "\n").map readL)) t)) ρ' := fun ρ' h0 => by
    have m : eMk "Town" 2 2 ini_Town [(eV 0)] [] ρ' = mkQ (goS [] 1 ((Txt.split t "\n").map readL)) t ρ' := by
      have e1 : eMk "Town" 2 2 ini_Town [(eV 0)] [] ρ' = eMk "Town" 2 2 ini_Town [fun ρ => .ok (.val (.str t)) ρ] [] ρ' := by
        show (eA [eV 0] ρ').bind _ = (eA [fun ρ => .ok (.val (.str t)) ρ] ρ').bind _
        rw [eA_cons (eV_ok h0) eA_nil, eA_cons (f := fun ρ => R.ok (.val (.str t)) ρ) rfl eA_nil, R.bind_ok, R.bind_ok]
        rw [show argsS ([nrmO (.slot 0)] ++ ([] : List D).map Opd.val) ρ' = some [some (false, .str t)] from arg1 h0, show argsS ([nrmO (.val (.str t))] ++ ([] : List D).map Opd.val) ρ' = some [some (false, .str t)] from rfl]
        rfl
      rw [e1]
      exact mk_town tk (f := fun ρ => .ok (.val (.str t)) ρ) rfl
    unfold eTold
    rw [m]
    cases goS [] 1 ((Txt.split t "\n").map readL) with
    | ok P => rfl
    | error k =>
      show (if errs.contains "BadTown" then _ else _) = _
      rw [if_pos (by decide +kernel)]; rfl
  have tl := hf (ρ K none none) rfl
  unfold m_law_is_judged
  cases hg : goS [] 1 ((Txt.split t "\n").map readL) with
  | ok P =>
    rw [hg] at tl
    have hw : wrI t = 0 := by unfold wrI; rw [hg]
    let ρ3 := ρ K (some (false, .non)) (some (false, townD P t))
    have a2 : sAsgT (tgA 2 [(tgN 1 2), (tgN 1 3)]) (eTold errs (eMk "Town" 2 2 ini_Town [(eV 0)] [])) (ρ K none none) = .ok .nx ρ3 := by
      unfold sAsgT
      rw [tl]; rfl
    have c1 : tV (e2 (eV 1) (eC (.int 0)) eqF) ρ3 = .ok true ρ3 := tV_ok (e2_ok (eV_ok rfl) (b := .val (.int 0)) rfl rfl rfl (by rw [eqF_int, hw])) rfl
    have r1 : e1 (eV 2) isNF ρ3 = .ok (.val (.bl true)) ρ3 := e1_ok (eV_ok rfl) rfl rfl
    have r2 : e2 (ePrO "Town" 1 m_Town_text (eV 3)) (eV 0) eqF ρ3 = .ok (.val (.bl true)) ρ3 := e2_ok (a := .val (.str t)) rfl (eV_ok rfl) rfl rfl (by rw [eqF_str ok ok]; simp)
    exact ⟨_, (sSeq_nx a1).trans ((sSeq_nx a2).trans (sSeq_rt ((sIf_ok c1).trans (sRet_ok ((eAnd_t r1 rfl).trans r2) rfl))))⟩
  | error k =>
    rw [hg] at tl
    have hw : wrI t = k := by unfold wrI; rw [hg]
    have hb : 1 ≤ k ∧ k ≤ 20000 := by
      have h1 := split_sum e10 k10 t
      have h2 := ok.2
      rcases goS_bound _ _ _ _ hg with h | ⟨a, b⟩
      · omega
      · rw [List.length_map] at b; omega
    have hk : k.natAbs < 10 ^ 500 := Nat.lt_of_lt_of_le (show k.natAbs < 10 ^ 5 by omega) (Nat.pow_le_pow_right (by decide) (by decide))
    have hs := repr_int hk
    have ho := sI_big hk
    let ρ3 := ρ K (some (false, .exc "BadTown" (.int k))) (some (false, .non))
    have a2 : sAsgT (tgA 2 [(tgN 1 2), (tgN 1 3)]) (eTold errs (eMk "Town" 2 2 ini_Town [(eV 0)] [])) (ρ K none none) = .ok .nx ρ3 := by
      unfold sAsgT
      rw [tl]; rfl
    have c1 : tV (e2 (eV 1) (eC (.int 0)) eqF) ρ3 = .ok false ρ3 := tV_ok (e2_ok (eV_ok rfl) (b := .val (.int 0)) rfl rfl rfl (by rw [eqF_int, hw, decide_eq_false (by omega : ¬ k = 0)])) rfl
    have r1 : e1 (eV 2) (isiF (.err "BadTown")) ρ3 = .ok (.val (.bl true)) ρ3 := e1_ok (eV_ok rfl) rfl (by simp [isiF, isiB, DL.isObj, isiB0])
    have q1 : eB [(e1 (eV 2) valF)] reprF ρ3 = .ok (.val (.str (sI k))) ρ3 := eB_ok (eA_cons (e1_ok (eV_ok rfl) rfl rfl) eA_nil) rfl hs
    have q2 : eB [(eV 1)] reprF ρ3 = .ok (.val (.str (sI k))) ρ3 := eB_ok (ds := [.int (wrI t)]) (eA_cons (eV_ok rfl) eA_nil) rfl (by rw [hw]; exact hs)
    have r2 : e2 (eB [(e1 (eV 2) valF)] reprF) (eB [(eV 1)] reprF) eqF ρ3 = .ok (.val (.bl true)) ρ3 := e2_ok q1 q2 rfl rfl (by rw [eqF_str ho ho]; simp)
    exact ⟨_, (sSeq_nx a1).trans ((sSeq_nx a2).trans ((sSeq_nx ((sIf_ok c1).trans rfl)).trans (sRet_ok ((eAnd_t r1 rfl).trans r2) rfl)))⟩
end K02

set_option Elab.async false
set_option linter.all false
set_option maxRecDepth 100000
set_option maxHeartbeats 1000000
set_option exponentiation.threshold 10000
namespace K02
open PySem PySem.Spec L2 DL
open PyProof.Rows hiding St
/-! spoilt rows -/
theorem cutL_map {α β : Type} (f : α → β) (xs : List α) (lo hi : Option Int) : cutL (xs.map f) lo hi = (cutL xs lo hi).map f := by
  unfold cutL
  rw [List.length_map, ← List.map_drop, ← List.map_take]
theorem cutL_mem {α : Type} {xs : List α} {lo hi : Option Int} {x : α} (h : x ∈ cutL xs lo hi) : x ∈ xs := by
  unfold cutL at h
  exact List.mem_of_mem_drop (List.mem_of_mem_take h)
theorem pre_len {α : Type} (xs : List α) (k : Nat) : (cutL xs none (some (k : Int))).length ≤ min k xs.length := by
  unfold cutL
  rw [HT.sIx_none, HT.sIx_nat, List.length_take]
  omega
theorem suf_len {α : Type} (xs : List α) (k : Nat) : (cutL xs (some (k : Int)) none).length ≤ xs.length - min k xs.length := by
  unfold cutL
  rw [HT.sIx_none, HT.sIx_nat, List.length_take]
  omega
theorem mid_len {α : Type} (xs : List α) (j k : Nat) : (cutL xs (some (j : Int)) (some (k : Int))).length ≤ min k xs.length - min j xs.length := by
  unfold cutL
  rw [HT.sIx_nat, HT.sIx_nat, List.length_take]
  omega
theorem sum_append (xs ys : List Str) : ((xs ++ ys).map (·.length)).sum = (xs.map (·.length)).sum + (ys.map (·.length)).sum := by
  rw [List.map_append, List.sum_append]
theorem sum_take (xs : List Str) (k : Nat) : ((xs.take k).map (·.length)).sum ≤ (xs.map (·.length)).sum := by
  have := sum_append (xs.take k) (xs.drop k)
  rw [List.take_append_drop] at this
  omega
theorem sum_drop (xs : List Str) (k : Nat) : ((xs.drop k).map (·.length)).sum ≤ (xs.map (·.length)).sum := by
  have := sum_append (xs.take k) (xs.drop k)
  rw [List.take_append_drop] at this
  omega
theorem sum_cut (xs : List Str) (lo hi : Option Int) : ((cutL xs lo hi).map (·.length)).sum ≤ (xs.map (·.length)).sum := by
  unfold cutL
  exact Nat.le_trans (sum_take _ _) (sum_drop _ _)
theorem cut_le {α : Type} (xs : List α) (lo hi : Option Int) : (cutL xs lo hi).length ≤ xs.length := by
  unfold cutL
  rw [List.length_take, List.length_drop]
  omega
structure RowOK (B : Nat) (s : Str) : Prop where
  ch : ∀ c ∈ s.cps.toList, c ≠ 10 ∧ c < 0x110000
  len : s.length ≤ B
structure RowsOK (n B : Nat) (R : List Str) : Prop where
  len : R.length ≤ n
  row : ∀ r ∈ R, RowOK B r
theorem RowOK.mono {B B' : Nat} {s : Str} (h : RowOK B s) (hb : B ≤ B') : RowOK B' s := ⟨h.ch, Nat.le_trans h.len hb⟩
theorem RowOK.ok {B : Nat} {s : Str} (h : RowOK B s) (hb : B ≤ 10000) : okS s := ⟨strOk_iff.mpr fun c hc => (h.ch c hc).2, Nat.le_trans h.len hb⟩
theorem RowOK.app {A B : Nat} {s t : Str} (h : RowOK A s) (h' : RowOK B t) : RowOK (A + B) (s ++ t) := by
  refine ⟨fun c hc => ?_, by rw [len_append]; have := h.len; have := h'.len; omega⟩
  have e : (s ++ t).cps.toList = s.cps.toList ++ t.cps.toList := TL.tl_append s t
  rw [e] at hc
  rcases List.mem_append.mp hc with hc | hc
  · exact h.ch c hc
  · exact h'.ch c hc
theorem RowOK.word {B : Nat} {s w : Str} (h : RowOK B s) (hw : w ∈ Txt.split s " ") : RowOK B w := by
  refine ⟨fun c hc => h.ch c (split_mem e32 k32 hw hc), Nat.le_trans (words_ok (strOk_iff.mpr fun c hc => (h.ch c hc).2) hw).2 h.len⟩
theorem join_tl {y : Str} {s : Nat} (ey : y.cps.toList = [s]) (ws : List Str) : (Txt.join y ws).cps.toList = TL.joinL [s] (ws.map fun l => l.cps.toList) := by
  have := TL.tl_join y ws
  rw [TL.join_eq]
  show TL.tl (Str.join y ws) = _
  rw [this]
  show TL.joinL y.cps.toList _ = _
  rw [ey]
  try rfl
theorem join_ok {y : Str} {s : Nat} (ey : y.cps.toList = [s]) {ws : List Str} {P : Nat → Prop} (hs : P s) (h : ∀ w ∈ ws, ∀ c ∈ w.cps.toList, P c) : (∀ c ∈ (Txt.join y ws).cps.toList, P c) ∧ (Txt.join y ws).length ≤ (ws.map (·.length)).sum + ws.length := by
  refine ⟨fun c hc => ?_, ?_⟩
  · rw [join_tl ey] at hc
    rcases mem_joinL hc with hc | ⟨p, hp, hc⟩
    · rw [List.mem_singleton.mp hc]; exact hs
    · obtain ⟨l, hl, rfl⟩ := List.mem_map.mp hp
      exact h l hl c hc
  · have e : (Txt.join y ws).length = (TL.joinL [s] (ws.map fun l => l.cps.toList)).length := by rw [← join_tl ey]; simp [Str.length]
    have b := len_joinL (y := [s]) (ps := ws.map fun l => l.cps.toList)
    have q : ((ws.map fun l => l.cps.toList).map List.length).sum = (ws.map (·.length)).sum := by rw [List.map_map]; congr 1
    rw [q, List.length_map, List.length_singleton, Nat.mul_one] at b
    rw [e]; exact b
theorem sl_pre {i : Nat} {fl : Bool} {xs : List Str} {f : M Opd} {o : Opd} {k : Int} {ρ : DEnv} (hi : ρ[i]? = some (some (fl, .lst (xs.map D.str)))) (hf : f ρ = .ok o ρ) (lk : look (nrmO o) ρ = some (.int k)) : eSl (eV i) pNo (pAt f) ρ = .ok (.own (.lst ((cutL xs none (some k)).map D.str))) ρ :=
  eSl_ok (eV_ok hi) rfl (pAt_ok hf lk) (look_at hi) (by show some (Opd.own (.lst (cutL (xs.map D.str) none (some k)))) = _; rw [cutL_map])
theorem sl_suf {i : Nat} {fl : Bool} {xs : List Str} {f : M Opd} {o : Opd} {k : Int} {ρ : DEnv} (hi : ρ[i]? = some (some (fl, .lst (xs.map D.str)))) (hf : f ρ = .ok o ρ) (lk : look (nrmO o) ρ = some (.int k)) : eSl (eV i) (pAt f) pNo ρ = .ok (.own (.lst ((cutL xs (some k) none).map D.str))) ρ :=
  eSl_ok (eV_ok hi) (pAt_ok hf lk) rfl (look_at hi) (by show some (Opd.own (.lst (cutL (xs.map D.str) (some k) none))) = _; rw [cutL_map])
theorem sl_mid {i : Nat} {fl : Bool} {xs : List Str} {f g : M Opd} {o o' : Opd} {j k : Int} {ρ : DEnv} (hi : ρ[i]? = some (some (fl, .lst (xs.map D.str)))) (hf : f ρ = .ok o ρ) (lk : look (nrmO o) ρ = some (.int j)) (hg : g ρ = .ok o' ρ) (lk' : look (nrmO o') ρ = some (.int k)) : eSl (eV i) (pAt f) (pAt g) ρ = .ok (.own (.lst ((cutL xs (some j) (some k)).map D.str))) ρ :=
  eSl_ok (eV_ok hi) (pAt_ok hf lk) (pAt_ok hg lk') (look_at hi) (by show some (Opd.own (.lst (cutL (xs.map D.str) (some j) (some k)))) = _; rw [cutL_map])
theorem add_L {f g : M Opd} {ρ ρ1 ρ2 : DEnv} {xs ys : List Str} (hf : f ρ = .ok (.own (.lst (xs.map D.str))) ρ1) (hg : g ρ1 = .ok (.own (.lst (ys.map D.str))) ρ2) (hl : xs.length + ys.length ≤ 16777216) : e2 f g addF ρ = .ok (.own (.lst ((xs ++ ys).map D.str))) ρ2 := by
  refine e2_ok hf hg rfl rfl ?_
  show (if (xs.map D.str).length + (ys.map D.str).length ≤ 16777216 then some (Opd.own (.lst (xs.map D.str ++ ys.map D.str))) else none) = _
  rw [List.length_map, List.length_map, if_pos hl, List.map_append]
theorem split_run {f : M Opd} {ρ : DEnv} {l : Str} (hf : f ρ = .ok (.val (.str l)) ρ) (ol : okS l) : eM1 f (eC (.str " ")) splitF ρ = .ok (.own (.lst ((Txt.split l " ").map D.str))) ρ := by
  show (nrm f ρ).bind _ = _
  rw [nrm_ok hf, R.bind_ok]
  show (match splitF (.str l) (.str " ") with | some o => R.ok o ρ | none => R.bad) = _
  rw [split_ok ol]
theorem ix_str {f g : M Opd} {ρ : DEnv} {o o' : Opd} {xs : List Str} {k : Int} {x : Str} (hf : f ρ = .ok o ρ) (hg : g ρ = .ok o' ρ) (l1 : look (nrmO o) ρ = some (.lst (xs.map D.str))) (l2 : look (nrmO o') ρ = some (.int k)) (hx : atI xs k = some x) : e2 f g ixF ρ = .ok (.val (.str x)) ρ :=
  e2_ok hf hg l1 l2 (by show (atI (xs.map D.str) k).map Opd.val = _; rw [atI_map, hx]; rfl)
def envS (p RD : D) (b : Bool) (way at_ : Int) (WD : D) (sp : Int) (x6 x7 x8 : DL.Slot) : DEnv := [some (true, p), some (b, RD), some (false, .int way), some (false, .int at_), some (true, WD), some (false, .int sp), x6, x7, x8]
def moreL : List Str := ["place am 7 -7", "place zz 0 0", "place a 20 20", "", "town am", "place q 1 2 3"]
def fixL : List Str := ["", "a", "0", "-0", "20", "-20", "21", "-21", "007", "+3", "3.0", "Am", "toolonger", "place", "x", "--1"]
def lineB (B : Nat) (s : Str) : Bool := s.cps.toList.all (fun c => decide (c ≠ 10) && decide (c < 0x110000)) && decide (s.length ≤ B)
theorem lineOf {B : Nat} {s : Str} (h : lineB B s = true) : RowOK B s := by
  obtain ⟨h1, h2⟩ := Bool.and_eq_true_iff.mp h
  refine ⟨fun c hc => ?_, of_decide_eq_true h2⟩
  obtain ⟨a, b⟩ := Bool.and_eq_true_iff.mp (List.all_eq_true.mp h1 c hc)
  exact ⟨of_decide_eq_true a, of_decide_eq_true b⟩
theorem more_all : moreL.all (lineB 13) = true := by decide +kernel
theorem fix_all : fixL.all (lineB 9) = true := by decide +kernel
theorem lit_all : (["-", "0", "b"] : List Str).all (lineB 1) = true := by decide +kernel
abbrev sp3 : M Fl := (sIf (tV (e2 (eV 2) (eC (.int 2)) ltF)) (sRet 2 (e2 (eLst [(e2 (eSl (eV 1) pNo (pAt (eV 3))) (eSl (eV 1) (pAt (e2 (eV 3) (eC (.int 1)) addF)) pNo) addF), (e2 (eSl (eV 1) pNo (pAt (e2 (eV 3) (eC (.int 1)) addF))) (eSl (eV 1) (pAt (eV 3)) pNo) addF)]) (eV 2) ixF)) sNil)
abbrev sp4 : M Fl := (sIf (tV (e2 (eV 2) (eC (.int 2)) eqF)) (sRet 2 (e2 (e2 (eSl (eV 1) pNo (pAt (eV 3))) (e1 (eSl (eV 1) (pAt (eV 3)) (pAt (e2 (eV 3) (eC (.int 2)) addF))) revF) addF) (eSl (eV 1) (pAt (e2 (eV 3) (eC (.int 2)) addF)) pNo) addF)) sNil)
abbrev sp5 : M Fl := (sIf (tV (e2 (eV 2) (eC (.int 3)) eqF)) (sSeq (sAsg 2 6 (eLst [(eC (.str "place am 7 -7")), (eC (.str "place zz 0 0")), (eC (.str "place a 20 20")), (eC (.str "")), (eC (.str "town am")), (eC (.str "place q 1 2 3"))])) (sRet 2 (e2 (e2 (eSl (eV 1) pNo (pAt (eV 3))) (eLst [(eCall 2 2 m_law_of [(eV 0), (eV 6)])]) addF) (eSl (eV 1) (pAt (eV 3)) pNo) addF))) sNil)
abbrev spE : M Fl := (sSeq (sAsg 2 7 (eLst [(eC (.str "")), (eC (.str "a")), (eC (.str "0")), (eC (.str "-0")), (eC (.str "20")), (eC (.str "-20")), (eC (.str "21")), (eC (.str "-21")), (eC (.str "007")), (eC (.str "+3")), (eC (.str "3.0")), (eC (.str "Am")), (eC (.str "toolonger")), (eC (.str "place")), (eC (.str "x")), (eC (.str "--1"))])) (sSeq (sAsg 2 7 (e2 (eV 7) (eLst [(eC (.str "-")), (e2 (eV 4) (eC (.int 0)) ixF), (e2 (e2 (eV 4) (eV 5) ixF) (e2 (eV 4) (eV 5) ixF) addF), (e2 (e2 (eV 4) (eV 5) ixF) (eC (.str "0")) addF), (e2 (eC (.str "-")) (e2 (eV 4) (eV 5) ixF) addF), (eC (.str "b"))]) addF)) (sSeq (sAsg 2 8 (eIf (tV (e2 (eV 2) (eC (.int 4)) eqF)) (eLst []) (eLst [(eCall 2 2 m_law_of [(eV 0), (eV 7)])]))) (sSeq (sAsg 2 4 (e2 (e2 (eSl (eV 4) pNo (pAt (eV 5))) (eV 8) addF) (eSl (eV 4) (pAt (e2 (eV 5) (eB [(e2 (eV 2) (eC (.int 5)) neF)] intF) addF)) pNo) addF)) (sRet 2 (e2 (e2 (eSl (eV 1) pNo (pAt (eV 3))) (eLst [(eM1 (eC (.str " ")) (eV 4) joinF)]) addF) (eSl (eV 1) (pAt (e2 (eV 3) (eC (.int 1)) addF)) pNo) addF))))))
theorem sp_cut {R : List Str} {B : Nat} (h : ∀ r ∈ R, RowOK B r) {B' : Nat} (hb : B ≤ B') {lo hi : Option Int} : ∀ r ∈ cutL R lo hi, RowOK B' r := fun r hr => (h r (cutL_mem hr)).mono hb
theorem rows_app {R R' : List Str} {B : Nat} (h : ∀ r ∈ R, RowOK B r) (h' : ∀ r ∈ R', RowOK B r) : ∀ r ∈ R ++ R', RowOK B r := fun r hr => by
  rcases List.mem_append.mp hr with hr | hr
  · exact h r hr
  · exact h' r hr
section
variable {N n B : Nat} {p : D} {b : Bool} {R : List Str} {a k : Nat} {W : List Str} {way : Int}
theorem sp3_run (p : D) (b : Bool) (hR : RowsOK n B R) (hn : n ≤ 20) (ha : a < R.length) (hw : way = 0 ∨ way = 1) (WD : D) (sp : Int) :
    ∃ R', RowsOK (n + 1) B R' ∧ ∀ tl : M Fl, sSeq sp3 tl (envS p (.lst (R.map D.str)) b way a WD sp none none none) = .ok (.rt (.val (.lst (R'.map D.str)))) (envS p (.lst (R.map D.str)) b way a WD sp none none none) := by
  let ρ := envS p (.lst (R.map D.str)) b way a WD sp none none none
  have i1 : ρ[1]? = some (some (b, .lst (R.map D.str))) := rfl
  have i3 : eV 3 ρ = .ok (.slot 3) ρ := rfl
  have i31 : e2 (eV 3) (eC (.int 1)) addF ρ = .ok (.val (.int ((a + 1 : Nat) : Int))) ρ := e2_ok i3 (b := .val (.int 1)) rfl rfl rfl rfl
  have A0 := sl_pre (k := (a : Int)) i1 i3 rfl
  have A1 := sl_suf (k := ((a + 1 : Nat) : Int)) i1 i31 rfl
  have B0 := sl_pre (k := ((a + 1 : Nat) : Int)) i1 i31 rfl
  have B1 := sl_suf (k := (a : Int)) i1 i3 rfl
  have l1 := pre_len R a
  have l2 := suf_len R (a + 1)
  have l3 := pre_len R (a + 1)
  have l4 := suf_len R a
  have hl := hR.len
  have SA := add_L A0 A1 (by omega)
  have SB := add_L B0 B1 (by omega)
  have L : eLst [(e2 (eSl (eV 1) pNo (pAt (eV 3))) (eSl (eV 1) (pAt (e2 (eV 3) (eC (.int 1)) addF)) pNo) addF), (e2 (eSl (eV 1) pNo (pAt (e2 (eV 3) (eC (.int 1)) addF))) (eSl (eV 1) (pAt (eV 3)) pNo) addF)] ρ = .ok (.own (.lst [.lst ((cutL R none (some (a : Int)) ++ cutL R (some ((a + 1 : Nat) : Int)) none).map D.str), .lst ((cutL R none (some ((a + 1 : Nat) : Int)) ++ cutL R (some (a : Int)) none).map D.str)])) ρ :=
    eLst_ok (eA_cons SA (eA_cons SB eA_nil)) rfl (Nat.le_of_ble_eq_true rfl)
  have c : tV (e2 (eV 2) (eC (.int 2)) ltF) ρ = .ok true ρ := tV_ok (e2_ok (x := .int way) (eV_ok rfl) (b := .val (.int 2)) rfl rfl rfl (o := .val (.bl true)) (by show some (Opd.val (.bl (decide (way < 2)))) = _; rw [decide_eq_true (by omega)])) rfl
  rcases hw with rfl | rfl
  · refine ⟨cutL R none (some (a : Int)) ++ cutL R (some ((a + 1 : Nat) : Int)) none, ⟨by rw [List.length_append]; omega, rows_app (sp_cut hR.row (Nat.le_refl _)) (sp_cut hR.row (Nat.le_refl _))⟩, fun tl => sSeq_rt ((sIf_ok c).trans (sRet_ok (e2_ok L (eV_ok rfl) rfl rfl rfl) rfl))⟩
  · refine ⟨cutL R none (some ((a + 1 : Nat) : Int)) ++ cutL R (some (a : Int)) none, ⟨by rw [List.length_append]; omega, rows_app (sp_cut hR.row (Nat.le_refl _)) (sp_cut hR.row (Nat.le_refl _))⟩, fun tl => sSeq_rt ((sIf_ok c).trans (sRet_ok (e2_ok L (eV_ok rfl) rfl rfl rfl) rfl))⟩
theorem sp3_no (p : D) (b : Bool) (hw : 2 ≤ way) (RD WD : D) (x sp : Int) (tl : M Fl) : sSeq sp3 tl (envS p RD b way x WD sp none none none) = tl (envS p RD b way x WD sp none none none) := by
  have c : tV (e2 (eV 2) (eC (.int 2)) ltF) (envS p RD b way x WD sp none none none) = .ok false (envS p RD b way x WD sp none none none) := tV_ok (e2_ok (x := .int way) (eV_ok rfl) (b := .val (.int 2)) rfl rfl rfl (o := .val (.bl false)) (by show some (Opd.val (.bl (decide (way < 2)))) = _; rw [decide_eq_false (by omega)])) rfl
  exact sSeq_nx ((sIf_ok c).trans rfl)
theorem sp4_run (p : D) (b : Bool) (hR : RowsOK n B R) (hn : n ≤ 20) (ha : a < R.length) (WD : D) (sp : Int) :
    ∃ R', RowsOK (n + 1) B R' ∧ ∀ tl : M Fl, sSeq sp4 tl (envS p (.lst (R.map D.str)) b 2 a WD sp none none none) = .ok (.rt (.own (.lst (R'.map D.str)))) (envS p (.lst (R.map D.str)) b 2 a WD sp none none none) := by
  let ρ := envS p (.lst (R.map D.str)) b 2 a WD sp none none none
  have i1 : ρ[1]? = some (some (b, .lst (R.map D.str))) := rfl
  have i3 : eV 3 ρ = .ok (.slot 3) ρ := rfl
  have i32 : e2 (eV 3) (eC (.int 2)) addF ρ = .ok (.val (.int ((a + 2 : Nat) : Int))) ρ := e2_ok i3 (b := .val (.int 2)) rfl rfl rfl rfl
  have A0 := sl_pre (k := (a : Int)) i1 i3 rfl
  have A1 := sl_mid (j := (a : Int)) (k := ((a + 2 : Nat) : Int)) i1 i3 rfl i32 rfl
  have A2 := sl_suf (k := ((a + 2 : Nat) : Int)) i1 i32 rfl
  have A1' : e1 (eSl (eV 1) (pAt (eV 3)) (pAt (e2 (eV 3) (eC (.int 2)) addF))) revF ρ = .ok (.own (.lst ((cutL R (some (a : Int)) (some ((a + 2 : Nat) : Int))).reverse.map D.str))) ρ := e1_ok A1 rfl (by show some (Opd.own (.lst ((cutL R _ _).map D.str).reverse)) = _; rw [List.map_reverse])
  have l1 := pre_len R a
  have l2 := mid_len R a (a + 2)
  have l3 := suf_len R (a + 2)
  have hl := hR.len
  have S1 := add_L A0 A1' (by rw [List.length_reverse]; omega)
  have S2 := add_L S1 A2 (by rw [List.length_append, List.length_reverse]; omega)
  have c : tV (e2 (eV 2) (eC (.int 2)) eqF) ρ = .ok true ρ := tV_ok (e2_ok (eV_ok rfl) (b := .val (.int 2)) rfl rfl rfl (o := .val (.bl true)) rfl) rfl
  refine ⟨_, ⟨?_, rows_app (rows_app (sp_cut hR.row (Nat.le_refl _)) fun r hr => sp_cut hR.row (Nat.le_refl _) r (List.mem_reverse.mp hr)) (sp_cut hR.row (Nat.le_refl _))⟩, fun tl => sSeq_rt ((sIf_ok c).trans (sRet_ok S2 rfl))⟩
  rw [List.length_append, List.length_append, List.length_reverse]; omega
theorem sp4_no (p : D) (b : Bool) (hw : way ≠ 2) (RD WD : D) (x sp : Int) (tl : M Fl) : sSeq sp4 tl (envS p RD b way x WD sp none none none) = tl (envS p RD b way x WD sp none none none) := by
  have c : tV (e2 (eV 2) (eC (.int 2)) eqF) (envS p RD b way x WD sp none none none) = .ok false (envS p RD b way x WD sp none none none) := tV_ok (e2_ok (x := .int way) (eV_ok rfl) (b := .val (.int 2)) rfl rfl rfl (o := .val (.bl false)) (by rw [eqF_int, decide_eq_false hw])) rfl
  exact sSeq_nx ((sIf_ok c).trans rfl)
end
end K02

set_option Elab.async false
set_option linter.all false
set_option maxRecDepth 100000
set_option maxHeartbeats 1000000
set_option exponentiation.threshold 10000
namespace K02
open PySem PySem.Spec L2 DL
open PyProof.Rows hiding St
theorem more_set (p RD : D) (b : Bool) (a : Int) (WD : D) (sp : Int) : sAsg 2 6 (eLst [(eC (.str "place am 7 -7")), (eC (.str "place zz 0 0")), (eC (.str "place a 20 20")), (eC (.str "")), (eC (.str "town am")), (eC (.str "place q 1 2 3"))]) (envS p RD b 3 a WD sp none none none) = .ok .nx (envS p RD b 3 a WD sp (some (true, .lst (moreL.map D.str))) none none) := by kernel_rfl
theorem fix_set (p RD : D) (b : Bool) (way a : Int) (WD : D) (sp : Int) : (sAsg 2 7 (eLst [(eC (.str "")), (eC (.str "a")), (eC (.str "0")), (eC (.str "-0")), (eC (.str "20")), (eC (.str "-20")), (eC (.str "21")), (eC (.str "-21")), (eC (.str "007")), (eC (.str "+3")), (eC (.str "3.0")), (eC (.str "Am")), (eC (.str "toolonger")), (eC (.str "place")), (eC (.str "x")), (eC (.str "--1"))])) (envS p RD b way a WD sp none none none) = .ok .nx (envS p RD b way a WD sp none (some (true, .lst (fixL.map D.str))) none) := by kernel_rfl
section
variable {N n B : Nat} {p : D} {b : Bool} {R : List Str} {a k : Nat} {W : List Str} {way : Int}
theorem sp5_run (hp : Pot N p) (hN : N + 1 < 2 ^ 900) (b : Bool) (hR : RowsOK n B R) (hn : n ≤ 20) (hB : 13 ≤ B) (ha : a < R.length) (WD : D) (sp : Int) :
    ∃ R' p' rest, RowsOK (n + 1) B R' ∧ Pot (N + 1) p' ∧ ∀ tl : M Fl, sSeq sp5 tl (envS p (.lst (R.map D.str)) b 3 a WD sp none none none) = .ok (.rt (.own (.lst (R'.map D.str)))) (some (true, p') :: some (b, .lst (R.map D.str)) :: rest) := by
  obtain ⟨x, p', e, hx, h1'⟩ := of_run hp hN (b := true) (xs := moreL.map D.str) (show 0 < 6 by decide) (Nat.lt_of_lt_of_le (show 6 < 8 by decide) (by decide))
  obtain ⟨m, hm, rfl⟩ := List.mem_map.mp hx
  have rm : RowOK B m := (lineOf (List.all_eq_true.mp more_all m hm)).mono hB
  have st := more_set p (.lst (R.map D.str)) b a WD sp
  generalize D.lst (moreL.map D.str) = LL at e st
  have e' : m_law_of (startD 2 [some (true, p), some (true, LL)]) = .ok (.rt (.val (.str m))) [some (true, p'), some (true, LL)] := e
  let ρ : D → DEnv := fun p => envS p (.lst (R.map D.str)) b 3 a WD sp (some (true, LL)) none none
  have c : eCall 2 2 m_law_of [(eV 0), (eV 6)] (ρ p) = .ok (.val (.str m)) (ρ p') :=
    (call_mix (np := 2) (nN := 2) (m := m_law_of) (os := [.slot 0, .slot 6]) rfl rfl rfl rfl e').trans rfl
  have Lm : eLst [(eCall 2 2 m_law_of [(eV 0), (eV 6)])] (ρ p) = .ok (.own (.lst ([m].map D.str))) (ρ p') := eLst_ok (eA_cons c eA_nil) rfl (Nat.le_of_ble_eq_true rfl)
  have A0 : eSl (eV 1) pNo (pAt (eV 3)) (ρ p) = _ := sl_pre (k := (a : Int)) (xs := R) (fl := b) rfl (eV_ok (i := 3) (z := (false, .int a)) rfl) rfl
  have A1 : eSl (eV 1) (pAt (eV 3)) pNo (ρ p') = _ := sl_suf (k := (a : Int)) (xs := R) (fl := b) rfl (eV_ok (i := 3) (z := (false, .int a)) rfl) rfl
  have l1 := pre_len R a
  have l2 := suf_len R a
  have hl := hR.len
  have S1 := add_L A0 Lm (by rw [List.length_singleton]; omega)
  have S2 := add_L S1 A1 (by rw [List.length_append, List.length_singleton]; omega)
  have t : tV (e2 (eV 2) (eC (.int 3)) eqF) (envS p (.lst (R.map D.str)) b 3 a WD sp none none none) = .ok true (envS p (.lst (R.map D.str)) b 3 a WD sp none none none) := tV_ok (e2_ok (eV_ok rfl) (b := .val (.int 3)) rfl rfl rfl (o := .val (.bl true)) rfl) rfl
  refine ⟨_, p', _, ⟨?_, rows_app (rows_app (sp_cut hR.row (Nat.le_refl _)) fun r hr => ?_) (sp_cut hR.row (Nat.le_refl _))⟩, h1', fun tl => sSeq_rt ((sIf_ok t).trans ((sSeq_nx st).trans (sRet_ok S2 rfl)))⟩
  · rw [List.length_append, List.length_append, List.length_singleton]; omega
  · rw [List.mem_singleton.mp hr]; exact rm
theorem sp5_no (p : D) (b : Bool) (hw : way ≠ 3) (RD WD : D) (x sp : Int) (tl : M Fl) : sSeq sp5 tl (envS p RD b way x WD sp none none none) = tl (envS p RD b way x WD sp none none none) := by
  have c : tV (e2 (eV 2) (eC (.int 3)) eqF) (envS p RD b way x WD sp none none none) = .ok false (envS p RD b way x WD sp none none none) := tV_ok (e2_ok (x := .int way) (eV_ok rfl) (b := .val (.int 3)) rfl rfl rfl (o := .val (.bl false)) (by rw [eqF_int, decide_eq_false hw])) rfl
  exact sSeq_nx ((sIf_ok c).trans rfl)
/-- the words that may come in -/
def newL (w0 w : Str) : List Str := fixL ++ (["-", w0, w ++ w, w ++ "0", "-" ++ w, "b"] : List Str)
theorem newL_ok {w0 w : Str} (h0 : RowOK B w0) (h : RowOK B w) : ∀ r ∈ newL w0 w, RowOK (2 * B + 9) r := by
  have lit := List.all_eq_true.mp lit_all
  have q1 : RowOK 1 ("-" : Str) := lineOf (lit _ (by simp))
  have q2 : RowOK 1 ("0" : Str) := lineOf (lit _ (by simp))
  have q3 : RowOK 1 ("b" : Str) := lineOf (lit _ (by simp))
  intro r hr
  rcases List.mem_append.mp hr with hr | hr
  · exact (lineOf (List.all_eq_true.mp fix_all r hr)).mono (by omega)
  · simp only [List.mem_cons, List.not_mem_nil, or_false] at hr
    rcases hr with rfl | rfl | rfl | rfl | rfl | rfl
    · exact q1.mono (by omega)
    · exact h0.mono (by omega)
    · exact (h.app h).mono (by omega)
    · exact (h.app q2).mono (by omega)
    · exact (q1.app h).mono (by omega)
    · exact q3.mono (by omega)
theorem some_set (p RD : D) (b : Bool) (way a : Int) {w0 w : Str} {W : List Str} {k : Nat} (h0 : atI W 0 = some w0) (hk : atI W (k : Int) = some w) (hw : w.length ≤ 500) :
    (sAsg 2 7 (e2 (eV 7) (eLst [(eC (.str "-")), (e2 (eV 4) (eC (.int 0)) ixF), (e2 (e2 (eV 4) (eV 5) ixF) (e2 (eV 4) (eV 5) ixF) addF), (e2 (e2 (eV 4) (eV 5) ixF) (eC (.str "0")) addF), (e2 (eC (.str "-")) (e2 (eV 4) (eV 5) ixF) addF), (eC (.str "b"))]) addF)) (envS p RD b way a (.lst (W.map D.str)) k none (some (true, .lst (fixL.map D.str))) none) = .ok .nx (envS p RD b way a (.lst (W.map D.str)) k none (some (true, .lst ((newL w0 w).map D.str))) none) := by
  have hf : (fixL.map D.str).length = 16 := rfl
  have hm : (newL w0 w).map D.str = fixL.map D.str ++ [.str "-", .str w0, .str (w ++ w), .str (w ++ "0"), .str ("-" ++ w), .str "b"] := by unfold newL; rw [List.map_append]; rfl
  rw [hm]
  generalize fixL.map D.str = FL at hf
  let ρ := envS p RD b way a (.lst (W.map D.str)) k none (some (true, .lst FL)) none
  have i0 : e2 (eV 4) (eC (.int 0)) ixF ρ = .ok (.val (.str w0)) ρ := ix_str (eV_ok rfl) (o' := .val (.int 0)) rfl rfl rfl h0
  have ik : e2 (eV 4) (eV 5) ixF ρ = .ok (.val (.str w)) ρ := ix_str (eV_ok rfl) (eV_ok rfl) rfl rfl hk
  have l1 : ("0" : Str).length = 1 := by decide +kernel
  have l2 : ("-" : Str).length = 1 := by decide +kernel
  have j1 : e2 (e2 (eV 4) (eV 5) ixF) (e2 (eV 4) (eV 5) ixF) addF ρ = .ok (.val (.str (w ++ w))) ρ := e2_ok ik ik rfl rfl (addF_str (by omega))
  have j2 : e2 (e2 (eV 4) (eV 5) ixF) (eC (.str "0")) addF ρ = .ok (.val (.str (w ++ "0"))) ρ := e2_ok ik (b := .val (.str "0")) rfl rfl rfl (addF_str (by omega))
  have j3 : e2 (eC (.str "-")) (e2 (eV 4) (eV 5) ixF) addF ρ = .ok (.val (.str ("-" ++ w))) ρ := e2_ok (a := .val (.str "-")) rfl ik rfl rfl (addF_str (by omega))
  have L : eLst [(eC (.str "-")), (e2 (eV 4) (eC (.int 0)) ixF), (e2 (e2 (eV 4) (eV 5) ixF) (e2 (eV 4) (eV 5) ixF) addF), (e2 (e2 (eV 4) (eV 5) ixF) (eC (.str "0")) addF), (e2 (eC (.str "-")) (e2 (eV 4) (eV 5) ixF) addF), (eC (.str "b"))] ρ = .ok (.own (.lst [.str "-", .str w0, .str (w ++ w), .str (w ++ "0"), .str ("-" ++ w), .str "b"])) ρ :=
    eLst_ok (eA_cons (o := .val (.str "-")) rfl (eA_cons i0 (eA_cons j1 (eA_cons j2 (eA_cons j3 (eA_cons (o := .val (.str "b")) rfl eA_nil)))))) rfl (Nat.le_of_ble_eq_true rfl)
  exact sAsg_ok (e2_ok (eV_ok (i := 7) (z := (true, .lst FL)) rfl) L rfl rfl (by
    show (if FL.length + 6 ≤ 16777216 then some (Opd.own (.lst (FL ++ [.str "-", .str w0, .str (w ++ w), .str (w ++ "0"), .str ("-" ++ w), .str "b"]))) else none) = _
    rw [if_pos (by omega)])) rfl rfl
theorem spE_run (hp : Pot N p) (hN : N + 1 < 2 ^ 900) (b : Bool) (hR : RowsOK n B R) (hn : n ≤ 20) (hB : B ≤ 400) (ha : a < R.length) (hk : k < W.length) (hW : ∀ w ∈ W, RowOK B w) (hS : (W.map (·.length)).sum + W.length ≤ B + 1) (hw : 4 ≤ way) :
    ∃ R' p' rest, RowsOK (n + 1) (4 * B + 15) R' ∧ Pot (N + 1) p' ∧ spE (envS p (.lst (R.map D.str)) b way a (.lst (W.map D.str)) k none none none) = .ok (.rt (.own (.lst (R'.map D.str)))) (some (true, p') :: some (b, .lst (R.map D.str)) :: rest) := by
  obtain ⟨w0, h0, m0⟩ := atI_nat (xs := W) (r := 0) (by decide) (by omega)
  obtain ⟨w, h1, m1⟩ := atI_nat (xs := W) (r := (k : Int)) (by omega) (by omega)
  have rw0 := hW w0 m0
  have rw1 := hW w m1
  have a6 := fix_set p (.lst (R.map D.str)) b way a (.lst (W.map D.str)) k
  have a7 := some_set p (.lst (R.map D.str)) b way a h0 h1 (by have := rw1.len; omega)
  have nok := newL_ok rw0 rw1
  have nlen : (newL w0 w).length = 22 := rfl
  have eight : ∃ (V : List Str) (p' : D), Pot (N + 1) p' ∧ V.length ≤ 1 ∧ (∀ v ∈ V, RowOK (2 * B + 9) v) ∧ (sAsg 2 8 (eIf (tV (e2 (eV 2) (eC (.int 4)) eqF)) (eLst []) (eLst [(eCall 2 2 m_law_of [(eV 0), (eV 7)])]))) (envS p (.lst (R.map D.str)) b way a (.lst (W.map D.str)) k none (some (true, .lst ((newL w0 w).map D.str))) none) = .ok .nx (envS p' (.lst (R.map D.str)) b way a (.lst (W.map D.str)) k none (some (true, .lst ((newL w0 w).map D.str))) (some (true, .lst (V.map D.str)))) := by
    have t : tV (e2 (eV 2) (eC (.int 4)) eqF) (envS p (.lst (R.map D.str)) b way a (.lst (W.map D.str)) k none (some (true, .lst ((newL w0 w).map D.str))) none) = .ok (decide (way = 4)) (envS p (.lst (R.map D.str)) b way a (.lst (W.map D.str)) k none (some (true, .lst ((newL w0 w).map D.str))) none) := tV_ok (e2_ok (eV_ok rfl) (b := .val (.int 4)) rfl rfl rfl eqF_int) rfl
    by_cases h4 : way = 4
    · rw [decide_eq_true h4] at t
      exact ⟨[], p, hp.mono (by omega), by decide, fun v hv => absurd hv List.not_mem_nil, sAsg_ok (o := .own (.lst [])) (((eIf_ok t).trans (if_pos rfl)).trans rfl) rfl rfl⟩
    · rw [decide_eq_false h4] at t
      obtain ⟨x, p', e, hx, h1'⟩ := of_run hp hN (b := true) (xs := (newL w0 w).map D.str) (by rw [List.length_map, nlen]; decide) (by rw [List.length_map, nlen]; exact Nat.lt_of_lt_of_le (show 22 < 32 by decide) (by decide))
      obtain ⟨v, hv, rfl⟩ := List.mem_map.mp hx
      refine ⟨[v], p', h1', Nat.le_refl _, fun z hz => by rw [List.mem_singleton.mp hz]; exact nok v hv, ?_⟩
      generalize D.lst ((newL w0 w).map D.str) = LL at e t ⊢
      have e' : m_law_of (startD 2 [some (true, p), some (true, LL)]) = .ok (.rt (.val (.str v))) [some (true, p'), some (true, LL)] := e
      let ρ : D → DEnv := fun p => envS p (.lst (R.map D.str)) b way a (.lst (W.map D.str)) k none (some (true, LL)) none
      have c : eCall 2 2 m_law_of [(eV 0), (eV 7)] (ρ p) = .ok (.val (.str v)) (ρ p') :=
        (call_mix (np := 2) (nN := 2) (m := m_law_of) (os := [.slot 0, .slot 7]) rfl rfl rfl rfl e').trans rfl
      have Lm : eLst [(eCall 2 2 m_law_of [(eV 0), (eV 7)])] (ρ p) = .ok (.own (.lst ([v].map D.str))) (ρ p') := eLst_ok (eA_cons c eA_nil) rfl (Nat.le_of_ble_eq_true rfl)
      exact sAsg_ok (((eIf_ok t).trans (if_neg Bool.false_ne_true)).trans Lm) rfl rfl
  obtain ⟨V, p', hp', hV1, hV, a8⟩ := eight
  generalize D.lst ((newL w0 w).map D.str) = LL at a7 a8
  let ρ : DEnv := envS p' (.lst (R.map D.str)) b way a (.lst (W.map D.str)) k none (some (true, LL)) (some (true, .lst (V.map D.str)))
  obtain ⟨d, hd⟩ : ∃ d : Nat, (if decide (way ≠ 5) = true then (1 : Int) else 0) = (d : Int) := by
    split
    · exact ⟨1, rfl⟩
    · exact ⟨0, rfl⟩
  have q1 : e2 (eV 5) (eB [(e2 (eV 2) (eC (.int 5)) neF)] intF) addF ρ = .ok (.val (.int ((k + d : Nat) : Int))) ρ := by
    have n5 : e2 (eV 2) (eC (.int 5)) neF ρ = .ok (.val (.bl (decide (way ≠ 5)))) ρ := e2_ok (eV_ok rfl) (b := .val (.int 5)) rfl rfl rfl (by rw [neF_int, ← decide_not])
    have i5 : eB [(e2 (eV 2) (eC (.int 5)) neF)] intF ρ = .ok (.val (.int (d : Int))) ρ := eB_ok (ds := [.bl (decide (way ≠ 5))]) (eA_cons n5 eA_nil) rfl (by rw [← hd]; rfl)
    refine e2_ok (eV_ok rfl) i5 rfl rfl ?_
    show some (Opd.val (.int ((k : Int) + (d : Int)))) = _
    rw [Int.natCast_add]
  have A0 : eSl (eV 4) pNo (pAt (eV 5)) ρ = _ := sl_pre (k := (k : Int)) (xs := W) (fl := true) rfl (eV_ok (i := 5) (z := (false, .int k)) rfl) rfl
  have A1 : eSl (eV 4) (pAt (e2 (eV 5) (eB [(e2 (eV 2) (eC (.int 5)) neF)] intF) addF)) pNo ρ = _ := sl_suf (k := ((k + d : Nat) : Int)) (xs := W) (fl := true) rfl q1 rfl
  have c1 := cut_le W none (some (k : Int))
  have c2 := cut_le W (some ((k + d : Nat) : Int)) none
  have s1 := sum_cut W none (some (k : Int))
  have s2 := sum_cut W (some ((k + d : Nat) : Int)) none
  have S1 : e2 (eSl (eV 4) pNo (pAt (eV 5))) (eV 8) addF ρ = .ok (.own (.lst ((cutL W none (some (k : Int)) ++ V).map D.str))) ρ := by
    refine e2_ok A0 (eV_ok (i := 8) (z := (true, .lst (V.map D.str))) rfl) rfl rfl ?_
    show (if ((cutL W none (some (k : Int))).map D.str).length + (V.map D.str).length ≤ 16777216 then some (Opd.own (.lst ((cutL W none (some (k : Int))).map D.str ++ V.map D.str))) else none) = _
    rw [List.length_map, List.length_map, if_pos (by omega), List.map_append]
  have S2 := add_L S1 A1 (by rw [List.length_append]; omega)
  obtain ⟨U, hU⟩ : ∃ U, U = cutL W none (some (k : Int)) ++ V ++ cutL W (some ((k + d : Nat) : Int)) none := ⟨_, rfl⟩
  rw [← hU] at S2
  have hUr : ∀ u ∈ U, RowOK (2 * B + 9) u := by
    rw [hU]
    exact rows_app (rows_app (sp_cut hW (by omega)) hV) (sp_cut hW (by omega))
  have hUl : (U.map (·.length)).sum + U.length ≤ 4 * B + 15 := by
    rw [hU, sum_append, sum_append, List.length_append, List.length_append]
    have : (V.map (·.length)).sum ≤ 2 * B + 9 := by
      match V, hV1, hV with
      | [], _, _ => simp
      | [v], _, hV => simpa using (hV v List.mem_cons_self).len
    omega
  obtain ⟨j1, j2⟩ := join_ok e32 (ws := U) (P := fun c => c ≠ 10 ∧ c < 0x110000) ⟨by decide, by decide⟩ fun u hu => (hUr u hu).ch
  let ρ9 : DEnv := envS p' (.lst (R.map D.str)) b way a (.lst (U.map D.str)) k none (some (true, LL)) (some (true, .lst (V.map D.str)))
  have a9 : (sAsg 2 4 (e2 (e2 (eSl (eV 4) pNo (pAt (eV 5))) (eV 8) addF) (eSl (eV 4) (pAt (e2 (eV 5) (eB [(e2 (eV 2) (eC (.int 5)) neF)] intF) addF)) pNo) addF)) ρ = .ok .nx ρ9 := sAsg_ok S2 rfl rfl
  have l1 : (" " : Str).length = 1 := by decide +kernel
  have J : eM1 (eC (.str " ")) (eV 4) joinF ρ9 = .ok (.val (.str (Txt.join " " U))) ρ9 := join_run (b := true) rfl (by rw [l1]; omega)
  have Lj : eLst [(eM1 (eC (.str " ")) (eV 4) joinF)] ρ9 = .ok (.own (.lst ([Txt.join " " U].map D.str))) ρ9 := eLst_ok (eA_cons J eA_nil) rfl (Nat.le_of_ble_eq_true rfl)
  have i31 : e2 (eV 3) (eC (.int 1)) addF ρ9 = .ok (.val (.int ((a + 1 : Nat) : Int))) ρ9 := e2_ok (eV_ok rfl) (b := .val (.int 1)) rfl rfl rfl rfl
  have B0 : eSl (eV 1) pNo (pAt (eV 3)) ρ9 = _ := sl_pre (k := (a : Int)) (xs := R) (fl := b) rfl (eV_ok (i := 3) (z := (false, .int a)) rfl) rfl
  have B1 : eSl (eV 1) (pAt (e2 (eV 3) (eC (.int 1)) addF)) pNo ρ9 = _ := sl_suf (k := ((a + 1 : Nat) : Int)) (xs := R) (fl := b) rfl i31 rfl
  have d1 := pre_len R a
  have d2 := suf_len R (a + 1)
  have hl := hR.len
  have T1 := add_L B0 Lj (by rw [List.length_singleton]; omega)
  have T2 := add_L T1 B1 (by rw [List.length_append, List.length_singleton]; omega)
  refine ⟨cutL R none (some (a : Int)) ++ [Txt.join " " U] ++ cutL R (some ((a + 1 : Nat) : Int)) none, p', _, ⟨?_, ?_⟩, hp', (sSeq_nx a6).trans ((sSeq_nx a7).trans ((sSeq_nx a8).trans ((sSeq_nx a9).trans (sRet_ok T2 rfl))))⟩
  · rw [List.length_append, List.length_append, List.length_singleton]; omega
  · refine rows_app (rows_app (sp_cut hR.row (by omega)) fun r hr => ?_) (sp_cut hR.row (by omega))
    rw [List.mem_singleton.mp hr]
    exact ⟨j1, by omega⟩
end
theorem spoilt_run {N : Nat} {p : D} (hp : Pot N p) (hN : N + 4 < 2 ^ 900) (b : Bool) {n B : Nat} {R : List Str} (hR : RowsOK n B R) (hn : n ≤ 20) (hB : 13 ≤ B) (hB2 : B ≤ 400) (hne : R ≠ []) :
    ∃ o R' p' rest, m_law_spoilt [some (true, p), some (b, .lst (R.map D.str)), none, none, none, none, none, none, none] = .ok (.rt o) (some (true, p') :: some (b, .lst (R.map D.str)) :: rest) ∧ (o = .val (.lst (R'.map D.str)) ∨ o = .own (.lst (R'.map D.str))) ∧ RowsOK (n + 1) (4 * B + 15) R' ∧ Pot (N + 4) p' := by
  have hpos : 0 < R.length := List.length_pos_iff.mpr hne
  have hl := hR.len
  obtain ⟨way, p1, e1, w0, w1, h1⟩ := take_call hp (by omega) (f := eC (.int 8)) (n := 8) (by decide) (by decide) [some (b, .lst (R.map D.str)), none, none, none, none, none, none, none] (fun _ => rfl)
  obtain ⟨ai, p2, e2', a0, a1, h2⟩ := take_call h1 (by omega) (f := eB [(eV 1)] lenF) (n := (R.length : Int)) (by omega) (by omega) [some (b, .lst (R.map D.str)), none, none, none, none, none, none, none] (fun _ => eB_ok (ds := [.lst (R.map D.str)]) (eA_cons (eV_ok rfl) eA_nil) rfl (by show some (Opd.val (.int (R.map D.str).length)) = _; rw [List.length_map]))
  obtain ⟨a, rfl⟩ : ∃ a : Nat, ai = a := ⟨ai.toNat, by omega⟩
  have ha : a < R.length := by omega
  have s0 := sPar_ok (np := 2) (i := 2) (j := 3) (ρ4 := [some (true, p2), some (b, .lst (R.map D.str)), some (false, .int way), some (false, .int a), none, none, none, none, none]) e1 e2' rfl rfl rfl rfl
  obtain ⟨x, hx, mx⟩ := atI_nat (xs := R) (r := (a : Int)) (by omega) (by omega)
  have rx := hR.row x mx
  have ox := rx.ok (by omega)
  let W := Txt.split x " "
  have hS := split_sum e32 k32 x
  let ρ1 : D → DL.Slot → DEnv := fun p c => [some (true, p), some (b, .lst (R.map D.str)), some (false, .int way), some (false, .int a), c, none, none, none, none]
  have sw : eM1 (e2 (eV 1) (eV 3) ixF) (eC (.str " ")) splitF (ρ1 p2 none) = .ok (.own (.lst (W.map D.str))) (ρ1 p2 none) := split_run (ix_str (eV_ok rfl) (eV_ok rfl) rfl rfl hx) ox
  have s1 := sAsg_ok (np := 2) (i := 4) (ρ3 := ρ1 p2 (some (true, .lst (W.map D.str)))) sw rfl rfl
  have hWp : 0 < W.length := by
    have h1 : W.length = 0 ∨ 0 < W.length := Nat.eq_zero_or_pos _
    rcases h1 with h1 | h1
    · have : W = [] := List.length_eq_zero_iff.mp h1
      have h3 : Txt.split x " " = [] := this
      rw [h3] at hS
      simp at hS
    · exact h1
  have hWl : W.length ≤ B + 1 := by have := rx.len; show (Txt.split x " ").length ≤ _; omega
  obtain ⟨ki, p3, e3, k0, k1, h3⟩ := take_call h2 (by omega) (f := eB [(eV 4)] lenF) (n := (W.length : Int)) (by omega) (by omega) [some (b, .lst (R.map D.str)), some (false, .int way), some (false, .int a), some (true, .lst (W.map D.str)), none, none, none, none] (fun _ => eB_ok (ds := [.lst (W.map D.str)]) (eA_cons (eV_ok rfl) eA_nil) rfl (by show some (Opd.val (.int (W.map D.str).length)) = _; rw [List.length_map]))
  obtain ⟨k, rfl⟩ : ∃ k : Nat, ki = k := ⟨ki.toNat, by omega⟩
  have s2 := sAsg_ok (np := 2) (i := 5) (ρ3 := envS p3 (.lst (R.map D.str)) b way a (.lst (W.map D.str)) k none none none) e3 rfl rfl
  have pre : ∀ {r : DL.R Fl}, sSeq sp3 (sSeq sp4 (sSeq sp5 spE)) (envS p3 (.lst (R.map D.str)) b way a (.lst (W.map D.str)) k none none none) = r → m_law_spoilt [some (true, p), some (b, .lst (R.map D.str)), none, none, none, none, none, none, none] = r := fun h =>
    (sSeq_nx s0).trans ((sSeq_nx s1).trans ((sSeq_nx s2).trans h))
  have up : ∀ {R' : List Str} {B' : Nat}, RowsOK (n + 1) B' R' → B' ≤ 4 * B + 15 → RowsOK (n + 1) (4 * B + 15) R' := fun h hb => ⟨h.len, fun r hr => (h.row r hr).mono hb⟩
  by_cases c0 : way < 2
  · obtain ⟨R', ok, e⟩ := sp3_run p3 b hR hn ha (way := way) (by omega) (.lst (W.map D.str)) k
    exact ⟨_, R', p3, _, pre (e _), .inl rfl, up ok (by omega), h3.mono (by omega)⟩
  · have pre3 : ∀ {r : DL.R Fl}, sSeq sp4 (sSeq sp5 spE) (envS p3 (.lst (R.map D.str)) b way a (.lst (W.map D.str)) k none none none) = r → m_law_spoilt [some (true, p), some (b, .lst (R.map D.str)), none, none, none, none, none, none, none] = r := fun h => pre ((sp3_no p3 b (by omega) _ _ _ _ _).trans h)
    by_cases c2 : way = 2
    · subst c2
      obtain ⟨R', ok, e⟩ := sp4_run p3 b hR hn ha (.lst (W.map D.str)) k
      exact ⟨_, R', p3, _, pre3 (e _), .inr rfl, up ok (by omega), h3.mono (by omega)⟩
    · have pre4 : ∀ {r : DL.R Fl}, sSeq sp5 spE (envS p3 (.lst (R.map D.str)) b way a (.lst (W.map D.str)) k none none none) = r → m_law_spoilt [some (true, p), some (b, .lst (R.map D.str)), none, none, none, none, none, none, none] = r := fun h => pre3 ((sp4_no p3 b c2 _ _ _ _ _).trans h)
      by_cases c3 : way = 3
      · subst c3
        obtain ⟨R', p', rest, ok, h4, e⟩ := sp5_run h3 (by omega) b hR hn hB ha (.lst (W.map D.str)) k
        exact ⟨_, R', p', rest, pre4 (e _), .inr rfl, up ok (by omega), h4.mono (by omega)⟩
      · obtain ⟨R', p', rest, ok, h4, e⟩ := spE_run h3 (by omega) b hR hn hB2 ha (k := k) (W := W) (by omega) (fun w hw => rx.word hw) (by have := rx.len; show ((Txt.split x " ").map (·.length)).sum + (Txt.split x " ").length ≤ _; omega) (way := way) (by omega)
        exact ⟨_, R', p', rest, pre4 ((sp5_no p3 b c3 _ _ _ _ _).trans e), .inr rfl, ok, h4.mono (by omega)⟩
end K02

set_option Elab.async false
set_option linter.all false
set_option maxRecDepth 100000
set_option maxHeartbeats 1000000
set_option exponentiation.threshold 10000
namespace K02
open PySem PySem.Spec L2 DL
open PyProof.Rows hiding St
/-! law_right -/
theorem join_lines {n B : Nat} {R : List Str} (h : RowsOK n B R) (hb : n * (B + 1) ≤ 10000) (hB : B ≤ 500) : okS (Txt.join "\n" R) ∧ ∀ l ∈ Txt.split (Txt.join "\n" R) "\n", l.length ≤ 500 := by
  obtain ⟨j1, j2⟩ := join_ok e10 (ws := R) (P := fun c => c < 0x110000) (by decide) fun u hu c hc => ((h.row u hu).ch c hc).2
  have hs : (R.map (·.length)).sum + R.length ≤ n * (B + 1) := by
    have : ∀ xs : List Str, (∀ r ∈ xs, r.length ≤ B) → (xs.map (·.length)).sum + xs.length ≤ xs.length * (B + 1) := by
      intro xs
      induction xs with
      | nil => intro _; simp
      | cons x xs ih =>
        intro hx
        have := ih fun r hr => hx r (List.mem_cons_of_mem _ hr)
        have := hx x List.mem_cons_self
        rw [List.map_cons, List.sum_cons, List.length_cons, Nat.succ_mul]; omega
    exact Nat.le_trans (this R fun r hr => (h.row r hr).len) (Nat.mul_le_mul_right _ h.len)
  have ok : okS (Txt.join "\n" R) := ⟨strOk_iff.mpr j1, by omega⟩
  refine ⟨ok, fun l hl => ?_⟩
  by_cases hne : R = []
  · rw [hne] at hl j2 ok
    have := (lines_ok ok.1 hl).2
    simp at j2
    omega
  · have : Txt.split (Txt.join "\n" R) "\n" = R := TL.split_join (s := 10) (S := []) e10 k10 hne fun w hw hm => ((h.row w hw).ch 10 hm).1 rfl
    rw [this] at hl
    exact Nat.le_trans (h.row l hl).len hB
theorem joins_run {n B : Nat} {R : List Str} (h : RowsOK n B R) (hb : n * (B + 1) ≤ 10000) (hB : B ≤ 500) {i : Nat} {b : Bool} {ρ : DEnv} (hi : ρ[i]? = some (some (b, .lst (R.map D.str)))) : eM1 (eC (.str "\n")) (eV i) joinF ρ = .ok (.val (.str (Txt.join "\n" R))) ρ := by
  have l1 : ("\n" : Str).length = 1 := by decide +kernel
  refine join_run hi ?_
  have : ∀ xs : List Str, (∀ r ∈ xs, r.length ≤ B) → (xs.map (·.length)).sum + xs.length ≤ xs.length * (B + 1) := by
    intro xs
    induction xs with
    | nil => intro _; simp
    | cons x xs ih =>
      intro hx
      have := ih fun r hr => hx r (List.mem_cons_of_mem _ hr)
      have := hx x List.mem_cons_self
      rw [List.map_cons, List.sum_cons, List.length_cons, Nat.succ_mul]; omega
  have h1 := Nat.le_trans (this R fun r hr => (h.row r hr).len) (Nat.mul_le_mul_right _ h.len)
  rw [l1]; omega
/-- is_judged of a joined text -/
theorem jcall {t : Str} (ok : okS t) (hl : ∀ l ∈ Txt.split t "\n", l.length ≤ 500) {f : M Opd} {ρ : DEnv} (hf : f ρ = .ok (.val (.str t)) ρ) : eCall 1 4 m_law_is_judged [f] ρ = .ok (.val (.bl true)) ρ := by
  obtain ⟨ρ', e⟩ := judged_run ok hl
  exact call_val (os := [.val (.str t)]) (ρa := [some (false, .str t)]) (eA_cons hf eA_nil) rfl rfl rfl e
theorem neF_nilS (R : List Str) : neF (.lst (R.map D.str)) (.lst []) = some (.val (.bl (!decide (R = [])))) ∨ ¬ ∀ r ∈ R, PyData.strOk r = true := by
  by_cases h : ∀ r ∈ R, PyData.strOk r = true
  · refine .inl ?_
    unfold neF eqB
    have h1 : toPy (.lst (R.map D.str)) = some (.list (R.map PyData.str)) := by
      show (toPyL (R.map D.str)).map PyData.list = _
      rw [toPyL_strs]; rfl
    have h2 : toPy (.lst []) = some (.list []) := rfl
    rw [h1, h2]
    dsimp only
    obtain ⟨g1, g2⟩ := lay_strs h
    have sl : SeqAt.shaped (.list (R.map PyData.str)) = true := by
      unfold SeqAt.shaped
      have a : (PyData.list (R.map PyData.str)).canLay0 = true := g1
      have b : (PyData.list (R.map PyData.str)).depth ≤ 64 := by
        show PyData.depthAll (R.map PyData.str) + 1 ≤ 64
        omega
      rw [a, decide_eq_true b]; rfl
    rw [sl]
    have h3 : SeqAt.shaped (.list []) = true := rfl
    rw [h3]
    cases R with
    | nil => rfl
    | cons z F => rfl
  · exact .inr h
abbrev lapB : M Fl := (sSeq (sAsg 1 3 (eCall 2 9 m_law_spoilt [(eV 0), (eV 1)])) (sSeq (sIf (tAnd' (tV (e2 (eV 3) (eLst []) neF)) (tV (e2 (eCall 2 5 m_law_take [(eV 0), (eC (.int 3))]) (eC (.int 0)) eqF))) (sAsg 1 3 (eCall 2 9 m_law_spoilt [(eV 0), (eV 3)])) sNil) (sIf (tNot' (tV (eCall 1 4 m_law_is_judged [(eM1 (eC (.str "\n")) (eV 3) joinF)]))) (sRet 1 (eC (.bl false))) sNil)))
def env7 (p RD : D) (b : Bool) (x2 x3 x4 x5 x6 : DL.Slot) : DEnv := [some (true, p), some (b, RD), x2, x3, x4, x5, x6]
theorem lap_sp1 {N : Nat} {p : D} (hp : Pot N p) (hN : N + 4 < 2 ^ 900) {n B : Nat} {R : List Str} (hR : RowsOK n B R) (hn : n ≤ 20) (hB : 13 ≤ B) (hB2 : B ≤ 400) (hne : R ≠ []) (x2 x3 x4 x5 x6 : DL.Slot) :
    ∃ fl R' p', RowsOK (n + 1) (4 * B + 15) R' ∧ Pot (N + 4) p' ∧ sAsg 1 3 (eCall 2 9 m_law_spoilt [(eV 0), (eV 1)]) (env7 p (.lst (R.map D.str)) true x2 x3 x4 x5 x6) = .ok .nx (env7 p' (.lst (R.map D.str)) true x2 (some (fl, .lst (R'.map D.str))) x4 x5 x6) := by
  obtain ⟨o, R', p', rest, e, ho, ok, h4⟩ := spoilt_run hp hN true hR hn hB hB2 hne
  generalize D.lst (R.map D.str) = RD at e ⊢
  generalize hL : D.lst (R'.map D.str) = LD at ho ⊢
  rcases ho with rfl | rfl
  · have e' : m_law_spoilt (startD 9 [some (true, p), some (true, RD)]) = .ok (.rt (.val LD)) (some (true, p') :: some (true, RD) :: rest) := e
    have c : eCall 2 9 m_law_spoilt [(eV 0), (eV 1)] (env7 p RD true x2 x3 x4 x5 x6) = .ok (.val LD) (env7 p' RD true x2 x3 x4 x5 x6) := (call_mix (np := 2) (nN := 9) (m := m_law_spoilt) (os := [.slot 0, .slot 1]) rfl rfl rfl rfl e').trans rfl
    exact ⟨false, R', p', ok, h4, by rw [hL]; exact sAsg_ok c rfl rfl⟩
  · have e' : m_law_spoilt (startD 9 [some (true, p), some (true, RD)]) = .ok (.rt (.own LD)) (some (true, p') :: some (true, RD) :: rest) := e
    have c : eCall 2 9 m_law_spoilt [(eV 0), (eV 1)] (env7 p RD true x2 x3 x4 x5 x6) = .ok (.own LD) (env7 p' RD true x2 x3 x4 x5 x6) := (call_mix (np := 2) (nN := 9) (m := m_law_spoilt) (os := [.slot 0, .slot 1]) rfl rfl rfl rfl e').trans rfl
    exact ⟨true, R', p', ok, h4, by rw [hL]; exact sAsg_ok c rfl rfl⟩
theorem lap_sp3 {N : Nat} {p : D} (hp : Pot N p) (hN : N + 4 < 2 ^ 900) (RD : D) (fl : Bool) {n B : Nat} {R : List Str} (hR : RowsOK n B R) (hn : n ≤ 20) (hB : 13 ≤ B) (hB2 : B ≤ 400) (hne : R ≠ []) (x2 x4 x5 x6 : DL.Slot) :
    ∃ fl' R' p', RowsOK (n + 1) (4 * B + 15) R' ∧ Pot (N + 4) p' ∧ sAsg 1 3 (eCall 2 9 m_law_spoilt [(eV 0), (eV 3)]) (env7 p RD true x2 (some (fl, .lst (R.map D.str))) x4 x5 x6) = .ok .nx (env7 p' RD true x2 (some (fl', .lst (R'.map D.str))) x4 x5 x6) := by
  obtain ⟨o, R', p', rest, e, ho, ok, h4⟩ := spoilt_run hp hN fl hR hn hB hB2 hne
  generalize D.lst (R.map D.str) = SD at e ⊢
  generalize hL : D.lst (R'.map D.str) = LD at ho ⊢
  have go : ∀ {q : Opd}, (∀ d, q ≠ .slot d) → m_law_spoilt (startD 9 [some (true, p), some (fl, SD)]) = .ok (.rt q) (some (true, p') :: some (fl, SD) :: rest) → eCall 2 9 m_law_spoilt [(eV 0), (eV 3)] (env7 p RD true x2 (some (fl, SD)) x4 x5 x6) = .ok q (env7 p' RD true x2 (some (fl, SD)) x4 x5 x6) := fun {q} hq h => by
    cases q with
    | slot i => exact (hq i rfl).elim
    | val d => cases fl <;> exact (call_mix (np := 2) (nN := 9) (m := m_law_spoilt) (os := [.slot 0, .slot 3]) rfl rfl rfl rfl h).trans rfl
    | own d => cases fl <;> exact (call_mix (np := 2) (nN := 9) (m := m_law_spoilt) (os := [.slot 0, .slot 3]) rfl rfl rfl rfl h).trans rfl
  rcases ho with rfl | rfl
  · exact ⟨false, R', p', ok, h4, by rw [hL]; exact sAsg_ok (go (q := .val LD) (fun d z => by cases z) e) rfl rfl⟩
  · exact ⟨true, R', p', ok, h4, by rw [hL]; exact sAsg_ok (go (q := .own LD) (fun d z => by cases z) e) rfl rfl⟩
theorem lap_run {N : Nat} {p : D} (hp : Pot N p) (hN : N + 9 < 2 ^ 900) {R : List Str} (hR : RowsOK 6 22 R) (hne : R ≠ []) (x2 x3 x4 x5 x6 : DL.Slot) :
    ∃ p' y3, Pot (N + 9) p' ∧ lapB (env7 p (.lst (R.map D.str)) true x2 x3 x4 x5 x6) = .ok .nx (env7 p' (.lst (R.map D.str)) true x2 y3 x4 x5 x6) := by
  obtain ⟨fl, R1, p1, ok1, h1, a1⟩ := lap_sp1 hp (by omega) hR (by decide) (by decide) (by decide) hne x2 x3 x4 x5 x6
  have st : ∀ r ∈ R1, PyData.strOk r = true := fun r hr => ((ok1.row r hr).ok (by decide)).1
  have ne : neF (.lst (R1.map D.str)) (.lst []) = some (.val (.bl (!decide (R1 = [])))) := (neF_nilS R1).resolve_right fun z => z st
  have fin : ∀ {n B : Nat} {R' : List Str} (_ : RowsOK n B R') (_ : n * (B + 1) ≤ 10000) (_ : B ≤ 500) (fl : Bool) (p : D), (sIf (tNot' (tV (eCall 1 4 m_law_is_judged [(eM1 (eC (.str "\n")) (eV 3) joinF)]))) (sRet 1 (eC (.bl false))) sNil) (env7 p (.lst (R.map D.str)) true x2 (some (fl, .lst (R'.map D.str))) x4 x5 x6) = .ok .nx (env7 p (.lst (R.map D.str)) true x2 (some (fl, .lst (R'.map D.str))) x4 x5 x6) := fun {n B R'} h hb hB fl p => by
    obtain ⟨ok, hl⟩ := join_lines h hb hB
    exact (sIf_ok (tNot_ok (c := true) (tV_ok (jcall ok hl (joins_run h hb hB rfl)) rfl))).trans rfl
  let ρ := env7 p1 (.lst (R.map D.str)) true x2 (some (fl, .lst (R1.map D.str))) x4 x5 x6
  have t1 : tV (e2 (eV 3) (eLst []) neF) ρ = .ok (!decide (R1 = [])) ρ := tV_ok (e2_ok (eV_ok rfl) (b := .own (.lst [])) rfl rfl rfl ne) rfl
  by_cases h0 : R1 = []
  · rw [decide_eq_true h0] at t1
    refine ⟨p1, _, h1.mono (by omega), (sSeq_nx a1).trans ((sSeq_nx ((sIf_ok (tAnd_f t1)).trans rfl)).trans (fin ok1 (by decide) (by decide) fl p1))⟩
  · rw [decide_eq_false h0] at t1
    obtain ⟨r, p2, e2', r0, r1, h2⟩ := take_call h1 (by omega) (f := eC (.int 3)) (n := 3) (by decide) (by decide) [some (true, .lst (R.map D.str)), x2, some (fl, .lst (R1.map D.str)), x4, x5, x6] (fun _ => rfl)
    have t2 : tV (e2 (eCall 2 5 m_law_take [(eV 0), (eC (.int 3))]) (eC (.int 0)) eqF) ρ = .ok (decide (r = 0)) (env7 p2 (.lst (R.map D.str)) true x2 (some (fl, .lst (R1.map D.str))) x4 x5 x6) := tV_ok (e2_ok e2' (b := .val (.int 0)) rfl rfl rfl eqF_int) rfl
    by_cases hr : r = 0
    · rw [decide_eq_true hr] at t2
      obtain ⟨fl2, R2, p3, ok2, h3, a2⟩ := lap_sp3 h2 (by omega) (.lst (R.map D.str)) fl ok1 (by decide) (by decide) (by decide) h0 x2 x4 x5 x6
      exact ⟨p3, _, h3.mono (by omega), (sSeq_nx a1).trans ((sSeq_nx (((sIf_ok ((tAnd_t t1).trans t2)).trans (if_pos rfl)).trans a2)).trans (fin ok2 (by decide) (by decide) fl2 p3))⟩
    · rw [decide_eq_false hr] at t2
      exact ⟨p2, _, h2.mono (by omega), (sSeq_nx a1).trans ((sSeq_nx ((sIf_ok ((tAnd_t t1).trans t2)).trans rfl)).trans (fin ok1 (by decide) (by decide) fl p2))⟩
theorem laps_run {R : List Str} (hR : RowsOK 6 22 R) (hne : R ≠ []) : ∀ (ks : List Int) {N : Nat} {p : D} (_ : Pot N p) (_ : N + 9 * ks.length < 2 ^ 900) (x2 x3 x4 x5 x6 : DL.Slot),
    ∃ p' y2 y3, Pot (N + 9 * ks.length) p' ∧ loopF (tgN 1 2) lapB (ks.map .int) (env7 p (.lst (R.map D.str)) true x2 x3 x4 x5 x6) = .ok .nx (env7 p' (.lst (R.map D.str)) true y2 y3 x4 x5 x6)
  | [], N, p, hp, hN, x2, x3, x4, x5, x6 => ⟨p, x2, x3, hp, rfl⟩
  | k :: ks, N, p, hp, hN, x2, x3, x4, x5, x6 => by
    rw [List.length_cons] at hN
    obtain ⟨p1, y3, h1, e⟩ := lap_run hp (by omega) hR hne (some (false, .int k)) x3 x4 x5 x6
    obtain ⟨p2, z2, z3, h2, e'⟩ := laps_run hR hne ks h1 (by omega) (some (false, .int k)) y3 x4 x5 x6
    refine ⟨p2, z2, z3, h2.mono (by rw [List.length_cons]; omega), ?_⟩
    rw [List.map_cons]
    exact loop_cons (ρ1 := env7 p (.lst (R.map D.str)) true (some (false, .int k)) x3 x4 x5 x6) rfl e e'
/-! values that are no strings, strings that are no towns -/
def isNo : D → Bool
  | .obj _ _ => false
  | .exc _ _ => false
  | .scr _ => false
  | .str s => lineB 10 s && match goS [] 1 ((Txt.split s "\n").map readL) with
    | .error _ => true
    | .ok _ => false
  | _ => true
theorem isNo_odd : oddL.all isNo = true := by decide +kernel
theorem told_slot {t : Str} (ok : okS t) (hl : ∀ l ∈ Txt.split t "\n", l.length ≤ 500) {i : Nat} {ρ' : DEnv} (h0 : ρ'[i]? = some (some (false, .str t))) : eTold errs (eMk "Town" 2 2 ini_Town [(eV i)] []) ρ' = .ok (.val (toldQ (goS [] 1 ((Txt.split t "\n").map readL)) t)) ρ' := by
  have tk := taken_any ok hl
  have m : eMk "Town" 2 2 ini_Town [(eV i)] [] ρ' = mkQ (goS [] 1 ((Txt.split t "\n").map readL)) t ρ' := by
    have e1 : eMk "Town" 2 2 ini_Town [(eV i)] [] ρ' = eMk "Town" 2 2 ini_Town [fun ρ => .ok (.val (.str t)) ρ] [] ρ' := by
      show (eA [eV i] ρ').bind _ = (eA [fun ρ => .ok (.val (.str t)) ρ] ρ').bind _
      rw [eA_cons (eV_ok h0) eA_nil, eA_cons (f := fun ρ => R.ok (.val (.str t)) ρ) rfl eA_nil, R.bind_ok, R.bind_ok]
      rw [show argsS ([nrmO (.slot i)] ++ ([] : List D).map Opd.val) ρ' = some [some (false, .str t)] from arg1 h0, show argsS ([nrmO (.val (.str t))] ++ ([] : List D).map Opd.val) ρ' = some [some (false, .str t)] from rfl]
      rfl
    rw [e1]
    exact mk_town tk (f := fun ρ => .ok (.val (.str t)) ρ) rfl
  unfold eTold
  rw [m]
  cases goS [] 1 ((Txt.split t "\n").map readL) with
  | ok P => rfl
  | error k =>
    show (if errs.contains "BadTown" then _ else _) = _
    rw [if_pos (by decide +kernel)]; rfl
theorem isStr_no {v : D} (hv : isNo v = true) (hs : ∀ s, v ≠ .str s) : isiF (.ty "str") v = some (.val (.bl false)) := by
  cases v with
  | obj _ _ => cases hv
  | exc _ _ => cases hv
  | scr _ => cases hv
  | str s => exact (hs s rfl).elim
  | _ => rfl
theorem told_none {v : D} (hv : isNo v = true) (hs : ∀ s, v ≠ .str s) {i : Nat} {ρ' : DEnv} (h0 : ρ'[i]? = some (some (false, v))) : eTold errs (eMk "Town" 2 2 ini_Town [(eV i)] []) ρ' = .ok (.val (.tup [.exc "BadTown" (.int 0), .non])) ρ' := by
  have ht : m_taken [some (false, v), none, none, none, none] = .exc "BadTown" (.int 0) [some (false, v), none, none, none, none] := by
    have c : tNot' (tV (e1 (eV 0) (isiF (.ty "str")))) [some (false, v), none, none, none, none] = .ok true [some (false, v), none, none, none, none] := tNot_ok (c := false) (tV_ok (e1_ok (eV_ok rfl) rfl (isStr_no hv hs)) rfl)
    unfold m_taken
    exact sSeq_exc ((sIf_ok c).trans rfl)
  have c : eCall 1 5 m_taken [(eV 1)] [none, some (false, v)] = .exc "BadTown" (.int 0) [none, some (false, v)] := call_exc (ρa := [some (false, v)]) (eA_cons (eV_ok rfl) eA_nil) rfl rfl rfl ht
  have hr : runI ini_Town [] [none, some (false, v)] = .exc "BadTown" (.int 0) [none, some (false, v)] := by
    unfold ini_Town runI
    rw [c]; rfl
  have m : eMk "Town" 2 2 ini_Town [(eV i)] [] ρ' = .exc "BadTown" (.int 0) ρ' := by
    show (eA [eV i] ρ').bind _ = _
    rw [eA_cons (eV_ok h0) eA_nil, R.bind_ok]
    rw [show argsS ([nrmO (.slot i)] ++ ([] : List D).map Opd.val) ρ' = some [some (false, v)] from arg1 h0]
    show (if 1 + 0 + 1 = 2 ∧ allFz [some (false, v)] = true then (match runI ini_Town [] [none, some (false, v)] with
      | .ok (x :: r) _ => (match fullD (x :: r) with
        | some ds => R.ok (Opd.val (.obj "Town" ds)) ρ'
        | none => .bad)
      | .exc c d _ => .exc c d ρ'
      | _ => .bad) else .bad) = _
    rw [if_pos ⟨rfl, rfl⟩, hr]
  unfold eTold
  rw [m]
  show (if errs.contains "BadTown" then _ else _) = _
  rw [if_pos (by decide +kernel)]
abbrev valB : M Fl := (sSeq (sAsg 1 5 (e2 (eTold errs (eMk "Town" 2 2 ini_Town [(eV 4)] [])) (eC (.int 0)) ixF)) (sSeq (sAsg 1 6 (eIf (tV (e1 (eV 4) (isiF (.ty "str")))) (eCall 1 10 m_law_wrong_line [(eV 4)]) (eC (.int 0)))) (sIf (tOr' (tNot' (tV (e1 (eV 5) (isiF (.err "BadTown"))))) (tV (e2 (eB [(e1 (eV 5) valF)] reprF) (eB [(eV 6)] reprF) neF))) (sRet 1 (eC (.bl false))) sNil)))
theorem val_run (p RD : D) (x2 x3 x5 x6 : DL.Slot) {v : D} (hv : isNo v = true) : ∃ y5 y6, valB (env7 p RD false x2 x3 (some (false, v)) x5 x6) = .ok .nx (env7 p RD false x2 x3 (some (false, v)) y5 y6) := by
  let ρ : DL.Slot → DL.Slot → DEnv := fun a b => env7 p RD false x2 x3 (some (false, v)) a b
  obtain ⟨k, kb, tl, du⟩ : ∃ k : Int, k.natAbs < 10 ^ 500 ∧ (∀ a b, eTold errs (eMk "Town" 2 2 ini_Town [(eV 4)] []) (ρ a b) = .ok (.val (.tup [.exc "BadTown" (.int k), .non])) (ρ a b)) ∧ ∀ a b, eIf (tV (e1 (eV 4) (isiF (.ty "str")))) (eCall 1 10 m_law_wrong_line [(eV 4)]) (eC (.int 0)) (ρ a b) = .ok (.val (.int k)) (ρ a b) := by
    by_cases hs : ∃ s, v = .str s
    · obtain ⟨s, rfl⟩ := hs
      obtain ⟨q1, q2⟩ := Bool.and_eq_true_iff.mp (show (lineB 10 s && _) = true from hv)
      have ok := (lineOf q1).ok (by decide)
      have hl : ∀ l ∈ Txt.split s "\n", l.length ≤ 500 := fun l h => Nat.le_trans (lines_ok ok.1 h).2 (Nat.le_trans (lineOf q1).len (by decide))
      obtain ⟨k, hk⟩ : ∃ k, goS [] 1 ((Txt.split s "\n").map readL) = .error k := by
        cases hg : goS [] 1 ((Txt.split s "\n").map readL) with
        | error k => exact ⟨k, rfl⟩
        | ok P => rw [hg] at q2; cases q2
      have hw : wrI s = k := by unfold wrI; rw [hk]
      have hb : 1 ≤ k ∧ k ≤ 20000 := by
        have h1 := split_sum e10 k10 s
        have h2 := ok.2
        rcases goS_bound _ _ _ _ hk with h | ⟨a, b⟩
        · omega
        · rw [List.length_map] at b; omega
      refine ⟨k, Nat.lt_of_lt_of_le (show k.natAbs < 10 ^ 5 by omega) (Nat.pow_le_pow_right (by decide) (by decide)), fun a b => ?_, fun a b => ?_⟩
      · have := told_slot ok hl (i := 4) (ρ' := ρ a b) rfl
        rw [hk] at this; exact this
      · obtain ⟨ρw, ew⟩ := wrong_run ok hl
        rw [hw] at ew
        have t : tV (e1 (eV 4) (isiF (.ty "str"))) (ρ a b) = .ok true (ρ a b) := tV_ok (e1_ok (eV_ok rfl) rfl rfl) rfl
        exact ((eIf_ok t).trans (if_pos rfl)).trans (call_val (os := [.slot 4]) (ρa := [some (false, .str s)]) (eA_cons (eV_ok rfl) eA_nil) rfl rfl rfl ew)
    · have hs' : ∀ s, v ≠ .str s := fun s z => hs ⟨s, z⟩
      refine ⟨0, by show 0 < 10 ^ 500; exact Nat.pow_pos (by decide), fun a b => told_none hv hs' rfl, fun a b => ?_⟩
      have t : tV (e1 (eV 4) (isiF (.ty "str"))) (ρ a b) = .ok false (ρ a b) := tV_ok (e1_ok (eV_ok rfl) rfl (isStr_no hv hs')) rfl
      exact ((eIf_ok t).trans (if_neg Bool.false_ne_true)).trans rfl
  have hs := repr_int kb
  have ho := sI_big kb
  let C : DL.Slot := some (false, .exc "BadTown" (.int k))
  have a1 : sAsg 1 5 (e2 (eTold errs (eMk "Town" 2 2 ini_Town [(eV 4)] [])) (eC (.int 0)) ixF) (ρ x5 x6) = .ok .nx (ρ C x6) := sAsg_ok (e2_ok (tl _ _) (b := .val (.int 0)) rfl rfl rfl rfl) rfl rfl
  have a2 : sAsg 1 6 (eIf (tV (e1 (eV 4) (isiF (.ty "str")))) (eCall 1 10 m_law_wrong_line [(eV 4)]) (eC (.int 0))) (ρ C x6) = .ok .nx (ρ C (some (false, .int k))) := sAsg_ok (du _ _) rfl rfl
  let ρ3 := ρ C (some (false, .int k))
  have r1 : tNot' (tV (e1 (eV 5) (isiF (.err "BadTown")))) ρ3 = .ok false ρ3 := tNot_ok (c := true) (tV_ok (e1_ok (eV_ok rfl) rfl (o := .val (.bl true)) (by simp [isiF, isiB, DL.isObj, isiB0])) rfl)
  have q1 : eB [(e1 (eV 5) valF)] reprF ρ3 = .ok (.val (.str (sI k))) ρ3 := eB_ok (eA_cons (e1_ok (eV_ok rfl) rfl rfl) eA_nil) rfl hs
  have q2 : eB [(eV 6)] reprF ρ3 = .ok (.val (.str (sI k))) ρ3 := eB_ok (eA_cons (eV_ok rfl) eA_nil) rfl hs
  have r2 := tV_ok (e2_ok q1 q2 rfl rfl (neF_self ho.1)) (c := false) rfl
  exact ⟨_, _, (sSeq_nx a1).trans ((sSeq_nx a2).trans ((sIf_ok ((tOr_f r1).trans r2)).trans rfl))⟩
theorem vals_run (p RD : D) (x2 x3 : DL.Slot) : ∀ (vs : List D), (∀ v ∈ vs, isNo v = true) → ∀ x4 x5 x6 : DL.Slot, ∃ y4 y5 y6, loopF (tgN 1 4) valB vs (env7 p RD false x2 x3 x4 x5 x6) = .ok .nx (env7 p RD false x2 x3 y4 y5 y6)
  | [], _, x4, x5, x6 => ⟨x4, x5, x6, rfl⟩
  | v :: vs, hv, x4, x5, x6 => by
    obtain ⟨y5, y6, e⟩ := val_run p RD x2 x3 x5 x6 (hv v List.mem_cons_self)
    obtain ⟨z4, z5, z6, e'⟩ := vals_run p RD x2 x3 vs (fun z hz => hv z (List.mem_cons_of_mem _ hz)) (some (false, v)) y5 y6
    exact ⟨z4, z5, z6, loop_cons (ρ1 := env7 p RD false x2 x3 (some (false, v)) x5 x6) rfl e e'⟩
theorem int3_all : ((List.range 41).all fun k : Nat => decide ((sI ((k : Int) - 20)).length ≤ 3)) = true := by decide +kernel
theorem int3 {x : Int} (h : -20 ≤ x ∧ x ≤ 20) : (sI x).length ≤ 3 := by
  have := of_decide_eq_true (List.all_eq_true.mp int3_all (x + 20).toNat (List.mem_range.mpr (by omega)))
  rw [show (((x + 20).toNat : Nat) : Int) - 20 = x by omega] at this
  exact this
theorem rows_ok {T : List Pl} (h : TownOK 20 T) : RowsOK 6 22 (linesS T) ∧ linesS T ≠ [] := by
  refine ⟨⟨by unfold linesS; rw [List.length_map]; exact h.l6, fun r hr => ?_⟩, fun z => ?_⟩
  · obtain ⟨q, hq, rfl⟩ := List.mem_map.mp hr
    obtain ⟨a, b, c, d⟩ := h.inr q hq
    have R := row_line (h.pool q hq) ⟨a, b⟩ ⟨c, d⟩
    refine ⟨fun c hc => ⟨fun z => R.nl (z ▸ hc), strOk_iff.mp R.ok c hc⟩, ?_⟩
    rw [line_len]
    have n8 : q.1.length ≤ 8 := by
      have := (Bool.and_eq_true_iff.mp (pool_c _ (h.pool q hq))).2
      unfold nameB at this
      simp only [Bool.and_eq_true, decide_eq_true_eq] at this
      exact this.1.2
    have := int3 ⟨a, b⟩
    have := int3 ⟨c, d⟩
    omega
  · have := h.l2
    have hT : T = [] := List.map_eq_nil_iff.mp z
    rw [hT] at this; cases this
theorem fars : ∀ x ∈ ([.int 3, .int 20] : List D), ∃ far : Int, x = .int far ∧ 3 ≤ far ∧ far ≤ 20 := by
  intro x hx
  simp only [List.mem_cons, List.not_mem_nil, or_false] at hx
  rcases hx with rfl | rfl <;> exact ⟨_, rfl, by decide, by decide⟩
theorem end_run {R : List Str} (hR : RowsOK 6 22 R) (p : D) (b : Bool) (x2 x3 x4 x5 x6 : DL.Slot) : (sRet 1 (eAnd (eCall 1 4 m_law_is_judged [(eC (.str ""))]) (eAnd (eCall 1 4 m_law_is_judged [(e2 (eM1 (eC (.str "\n")) (eV 1) joinF) (eC (.str "\n")) addF)]) (eCall 1 4 m_law_is_judged [(e2 (eC (.str "\n")) (eM1 (eC (.str "\n")) (eV 1) joinF) addF)])))) (env7 p (.lst (R.map D.str)) b x2 x3 x4 x5 x6) = .ok (.rt (.val (.bl true))) (env7 p (.lst (R.map D.str)) b x2 x3 x4 x5 x6) := by
  let ρ := env7 p (.lst (R.map D.str)) b x2 x3 x4 x5 x6
  obtain ⟨ok, hl⟩ := join_lines hR (by decide) (by decide)
  have J : eM1 (eC (.str "\n")) (eV 1) joinF ρ = .ok (.val (.str (Txt.join "\n" R))) ρ := joins_run hR (by decide) (by decide) rfl
  have ln : (Txt.join "\n" R).length ≤ 138 := by
    obtain ⟨j1, j2⟩ := join_ok e10 (ws := R) (P := fun c => c < 0x110000) (by decide) fun u hu c hc => ((hR.row u hu).ch c hc).2
    have : ∀ xs : List Str, (∀ r ∈ xs, r.length ≤ 22) → (xs.map (·.length)).sum + xs.length ≤ xs.length * 23 := by
      intro xs
      induction xs with
      | nil => intro _; simp
      | cons x xs ih =>
        intro hx
        have := ih fun r hr => hx r (List.mem_cons_of_mem _ hr)
        have := hx x List.mem_cons_self
        rw [List.map_cons, List.sum_cons, List.length_cons]; omega
    have h1 := this R fun r hr => (hR.row r hr).len
    have h2 := hR.len
    omega
  have l1 : ("\n" : Str).length = 1 := by decide +kernel
  have on : PyData.strOk ("\n" : Str) = true := by decide +kernel
  have short : ∀ {t : Str}, PyData.strOk t = true → t.length ≤ 200 → okS t ∧ ∀ l ∈ Txt.split t "\n", l.length ≤ 500 := fun {t} h hb => ⟨⟨h, by omega⟩, fun l hl => Nat.le_trans (lines_ok h hl).2 (by omega)⟩
  obtain ⟨o0, q0⟩ := short (t := "") (by decide +kernel) (by decide +kernel)
  obtain ⟨o1, q1⟩ := short (t := Txt.join "\n" R ++ "\n") (okS_append ok.1 on) (by rw [len_append]; omega)
  obtain ⟨o2, q2⟩ := short (t := "\n" ++ Txt.join "\n" R) (okS_append on ok.1) (by rw [len_append]; omega)
  have c0 := jcall o0 q0 (f := eC (.str "")) (ρ := ρ) rfl
  have c1 := jcall o1 q1 (f := (e2 (eM1 (eC (.str "\n")) (eV 1) joinF) (eC (.str "\n")) addF)) (ρ := ρ) (e2_ok J (b := .val (.str "\n")) rfl rfl rfl (addF_str (by omega)))
  have c2 := jcall o2 q2 (f := (e2 (eC (.str "\n")) (eM1 (eC (.str "\n")) (eV 1) joinF) addF)) (ρ := ρ) (e2_ok (a := .val (.str "\n")) rfl J rfl rfl (addF_str (by omega)))
  exact sRet_ok ((eAnd_t c0 rfl).trans ((eAnd_t c1 rfl).trans c2)) rfl
theorem right_run {N : Nat} {p : D} (hp : Pot N p) (hN : N + 200 < 2 ^ 900) : ∃ p' rest, m_law_right [some (true, p), none, none, none, none, none, none] = .ok (.rt (.val (.bl true))) (some (true, p') :: rest) ∧ Pot (N + 200) p' := by
  obtain ⟨x, p1, e1, hx, h1⟩ := of_run hp (by omega) (b := false) (xs := [.int 3, .int 20]) (show 0 < 2 by decide) (Nat.lt_of_lt_of_le (show 2 < 4 by decide) (by decide))
  obtain ⟨far, rfl, f3, f20⟩ := fars x hx
  have e1' : m_law_of (startD 2 [some (true, p), some (false, .lst [.int 3, .int 20])]) = .ok (.rt (.val (.int far))) [some (true, p1), some (false, .lst [.int 3, .int 20])] := e1
  let ρ : D → DEnv := fun p => [some (true, p), none, none, none, none, none, none]
  have c1 : eCall 2 2 m_law_of [(eV 0), (eLst [(eC (.int 3)), (eC (.int 20))])] (ρ p) = .ok (.val (.int far)) (ρ p1) :=
    (call_mix (np := 2) (nN := 2) (m := m_law_of) (os := [.slot 0, .val (.lst [.int 3, .int 20])]) rfl rfl rfl rfl e1').trans rfl
  obtain ⟨p2, T, rest2, e2, h, h2⟩ := town_run h1 (by omega) (far := far) ⟨f3, by omega⟩
  have h := h.mono f20
  have e2' : m_law_town (startD 7 [some (true, p1), some (false, .int 2), some (false, .int 6), some (false, .int far)]) = .ok (.rt (.own (.lst (T.map plD)))) (some (true, p2) :: rest2) := e2
  have tr := text_run h false
  have ok := (town_taken h).ok
  obtain ⟨hR, hne⟩ := rows_ok h
  have sp : Txt.split (textS T) "\n" = linesS T := TL.split_join (s := 10) (S := []) e10 k10 hne fun w hw hm => ((hR.row w hw).ch 10 hm).1 rfl
  obtain ⟨p3, y2, y3, h3, el⟩ := laps_run hR hne [0, 1, 2, 3, 4, 5, 6, 7, 8, 9, 10, 11] h2 (by show _ + 9 * 12 < _; omega) none none none none none
  obtain ⟨x, p4, rest4, e4, hx, h4⟩ := odd_run h3 (by show _ + 9 * 12 + 1 < _; omega)
  have nok : ∀ v ∈ [.non, .int 0, .bl true, .lst ((linesS T).map D.str), .tup ((linesS T).map D.str), .dK [], x], isNo v = true := fun v hv => by
    simp only [List.mem_cons, List.not_mem_nil, or_false] at hv
    rcases hv with rfl | rfl | rfl | rfl | rfl | rfl | rfl
    · rfl
    · rfl
    · rfl
    · rfl
    · rfl
    · rfl
    · exact List.all_eq_true.mp isNo_odd _ hx
  obtain ⟨z4, z5, z6, ev⟩ := vals_run p4 (.lst ((linesS T).map D.str)) y2 y3 _ nok none none none
  have en := end_run hR p4 false y2 y3 z4 z5 z6
  obtain ⟨okR, hlR⟩ := join_lines hR (by decide) (by decide)
  have j1 := fun b => jcall okR hlR (f := eM1 (eC (.str "\n")) (eV 1) joinF) (ρ := env7 p2 (.lst ((linesS T).map D.str)) b none none none none none) (joins_run hR (by decide) (by decide) rfl)
  have sp0 : splitF (.str (textS T)) (.str "\n") = some (.own (.lst ((linesS T).map D.str))) := by
    show (if _ then some (Opd.own (.lst ((Txt.split (textS T) "\n").map D.str))) else _) = _
    rw [if_pos ⟨by decide +kernel, by have := ok.2; omega⟩, sp]
  generalize textS T = TX at tr sp0
  generalize D.lst (T.map plD) = TD at e2' tr
  have tq : m_law_text (startD 4 [some (false, TD)]) = .ok (.rt (.val (.str TX))) [some (false, TD), none, none, none] := tr
  have c2 : eCall 4 7 m_law_town [(eV 0), (eC (.int 2)), (eC (.int 6)), (eCall 2 2 m_law_of [(eV 0), (eLst [(eC (.int 3)), (eC (.int 20))])])] (ρ p) = .ok (.own TD) (ρ p2) :=
    (call_mix (np := 4) (nN := 7) (m := m_law_town) (os := [.slot 0, .val (.int 2), .val (.int 6), .val (.int far)]) (eA_cons (eV_ok rfl) (eA_cons (o := .val (.int 2)) rfl (eA_cons (o := .val (.int 6)) rfl (eA_cons c1 eA_nil)))) rfl rfl rfl e2').trans rfl
  have c3 : eCall 1 4 m_law_text [(eCall 4 7 m_law_town [(eV 0), (eC (.int 2)), (eC (.int 6)), (eCall 2 2 m_law_of [(eV 0), (eLst [(eC (.int 3)), (eC (.int 20))])])])] (ρ p) = .ok (.val (.str TX)) (ρ p2) :=
    call_val (os := [.val TD]) (ρa := [some (false, TD)]) (eA_cons c2 eA_nil) rfl rfl rfl tq
  have spl : eM1 (eCall 1 4 m_law_text [(eCall 4 7 m_law_town [(eV 0), (eC (.int 2)), (eC (.int 6)), (eCall 2 2 m_law_of [(eV 0), (eLst [(eC (.int 3)), (eC (.int 20))])])])]) (eC (.str "\n")) splitF (ρ p) = .ok (.own (.lst ((linesS T).map D.str))) (ρ p2) := by
    show (nrm _ (ρ p)).bind _ = _
    rw [nrm_ok c3, R.bind_ok]
    show (match splitF (.str TX) (.str "\n") with | some o => R.ok o (ρ p2) | none => R.bad) = _
    rw [sp0]
  generalize hV : ((linesS T).map D.str) = LL at spl el ev en j1
  have a0 := sAsg_ok (np := 1) (i := 1) (ρ3 := env7 p2 (.lst LL) true none none none none none) spl rfl rfl
  have s1 : (sIf (tNot' (tV (eCall 1 4 m_law_is_judged [(eM1 (eC (.str "\n")) (eV 1) joinF)]))) (sRet 1 (eC (.bl false))) sNil) (env7 p2 (.lst LL) true none none none none none) = .ok .nx (env7 p2 (.lst LL) true none none none none none) := (sIf_ok (tNot_ok (c := true) (tV_ok (j1 true) rfl))).trans rfl
  have i12 : iRng [(eC (.int 12))] (env7 p2 (.lst LL) true none none none none none) = .ok ([0, 1, 2, 3, 4, 5, 6, 7, 8, 9, 10, 11].map .int) (env7 p2 (.lst LL) true none none none none none) :=
    (iRng_ok (j := 12) (eA_cons (o := .val (.int 12)) rfl eA_nil) rfl (small62 (n := 12) (by decide)).1 (small62 (n := 12) (by decide)).2).trans rfl
  have e4' : m_law_odd (startD 2 [some (true, p3)]) = .ok (.rt (.val x)) (some (true, p4) :: rest4) := e4
  let ρ3 := env7 p3 (.lst LL) true y2 y3 none none none
  have co : eCall 1 2 m_law_odd [(eV 0)] ρ3 = .ok (.val x) (env7 p4 (.lst LL) true y2 y3 none none none) :=
    (call_mix (np := 1) (nN := 2) (m := m_law_odd) (os := [.slot 0]) rfl rfl rfl rfl e4').trans rfl
  have tp : eTup [(eC .non), (eC (.int 0)), (eC (.bl true)), (eV 1), (eB [(eV 1)] tupleF), (eDisp []), (eCall 1 2 m_law_odd [(eV 0)])] ρ3 = .ok (.val (.tup [.non, .int 0, .bl true, .lst LL, .tup LL, .dK [], x])) (env7 p4 (.lst LL) false y2 y3 none none none) :=
    eTup_ok (eA_cons (o := .val .non) rfl (eA_cons (o := .val (.int 0)) rfl (eA_cons (o := .val (.bl true)) rfl (eA_cons (eV_ok rfl) (eA_cons (o := .val (.tup LL)) (eB_ok (ds := [.lst LL]) (eA_cons (eV_ok rfl) eA_nil) rfl rfl) (eA_cons (o := .own (.dK [])) rfl (eA_cons co eA_nil))))))) rfl (Nat.le_of_ble_eq_true rfl)
  have it : (iOf tupK (eTup [(eC .non), (eC (.int 0)), (eC (.bl true)), (eV 1), (eB [(eV 1)] tupleF), (eDisp []), (eCall 1 2 m_law_odd [(eV 0)])])) ρ3 = .ok [.non, .int 0, .bl true, .lst LL, .tup LL, .dK [], x] (env7 p4 (.lst LL) false y2 y3 none none none) := by
    show (eTup _ ρ3).bind _ = _
    rw [tp]; rfl
  refine ⟨p4, [some (false, .lst LL), y2, y3, z4, z5, z6], ?_, h4.mono (by show _ + 9 * 12 + 1 ≤ _; omega)⟩
  exact (sSeq_nx a0).trans ((sSeq_nx s1).trans ((sSeq_nx (sFor_ok i12 el)).trans ((sSeq_nx (sFor_ok it ev)).trans en)))
theorem lcGo_step {vs : List Nat} {t : Tg} {f : M Opd} {d x : D} {ds acc : List D} {ρ ρ1 ρ3 ρ4 : DEnv} {o : Opd} (h1 : t d ρ = some ρ1) (h2 : f ρ1 = .ok o ρ3) (h3 : takeO o ρ3 = some (x, ρ4)) (hl : acc.length < 16777216) : lcGo vs t tYes' f (d :: ds) acc ρ = lcGo vs t tYes' f ds (acc ++ [x]) (wipeD ρ4 vs) := by
  show (match t d ρ with
    | some ρ1 => match tYes' ρ1 with
      | .ok true ρ2 => match f ρ2 with
        | .ok o ρ3 => match takeO o ρ3 with
          | some (y, ρ4) => if acc.length < 16777216 then lcGo vs t tYes' f ds (acc ++ [y]) (wipeD ρ4 vs) else .bad
          | none => .bad
        | _ => .bad
      | .ok false ρ2 => lcGo vs t tYes' f ds acc (wipeD ρ2 vs)
      | _ => .bad
    | none => .bad) = _
  rw [h1]
  show (match f ρ1 with
        | .ok o ρ3 => match takeO o ρ3 with
          | some (y, ρ4) => if acc.length < 16777216 then lcGo vs t tYes' f ds (acc ++ [y]) (wipeD ρ4 vs) else .bad
          | none => .bad
        | _ => .bad) = _
  rw [h2]
  dsimp only
  rw [h3]
  dsimp only
  rw [if_pos hl]
theorem turn_run (ns : List Int) (k : Nat) (hk : k < 2 ^ 30) (x2 : DL.Slot) : ∃ y2 : DL.Slot, (sSeq (sAsg 1 2 (eCall 2 5 m_law_pot [(eV 0), (eV 1)]))
  (sIf (tNot' (tV (eB [(eLc (iRng [(eC (.int 2))]) [3] (tgN 1 3) tYes' (eCall 1 7 m_law_right [(eV 2)]))] allF))) (sRet 1 (eC (.bl false))) sNil)) [some (false, .scr ns), some (false, .int k), x2, none] = .ok .nx [some (false, .scr ns), some (false, .int k), y2, none] := by
  obtain ⟨d, rest, e, hp⟩ := pot_run ns k hk
  obtain ⟨p', rest2, e2', hp'⟩ := right_run hp (by decide)
  obtain ⟨p'', rest3, e3', hp''⟩ := right_run hp' (by decide)
  refine ⟨some (true, p''), ?_⟩
  have a1 : sAsg 1 2 (eCall 2 5 m_law_pot [(eV 0), (eV 1)]) [some (false, .scr ns), some (false, .int k), x2, none] = .ok .nx [some (false, .scr ns), some (false, .int k), some (true, d), none] :=
    sAsg_ok (o := .own d) (ρ1 := [some (false, .scr ns), some (false, .int k), x2, none]) (call_own (ρa := [some (false, .scr ns), some (false, .int k)]) (eA_cons (eV_ok rfl) (eA_cons (eV_ok rfl) eA_nil)) rfl rfl rfl e) rfl rfl
  have e2'' : m_law_right (startD 7 [some (true, d)]) = .ok (.rt (.val (.bl true))) (some (true, p') :: rest2) := e2'
  have e3'' : m_law_right (startD 7 [some (true, p')]) = .ok (.rt (.val (.bl true))) (some (true, p'') :: rest3) := e3'
  have c1 : eCall 1 7 m_law_right [(eV 2)] [some (false, .scr ns), some (false, .int k), some (true, d), some (false, .int 0)] = .ok (.val (.bl true)) [some (false, .scr ns), some (false, .int k), some (true, p'), some (false, .int 0)] :=
    (call_mix (np := 1) (nN := 7) (m := m_law_right) (os := [.slot 2]) rfl rfl rfl rfl e2'').trans rfl
  have c2 : eCall 1 7 m_law_right [(eV 2)] [some (false, .scr ns), some (false, .int k), some (true, p'), some (false, .int 1)] = .ok (.val (.bl true)) [some (false, .scr ns), some (false, .int k), some (true, p''), some (false, .int 1)] :=
    (call_mix (np := 1) (nN := 7) (m := m_law_right) (os := [.slot 2]) rfl rfl rfl rfl e3'').trans rfl
  have a2 : eLc (iRng [(eC (.int 2))]) [3] (tgN 1 3) tYes' (eCall 1 7 m_law_right [(eV 2)]) [some (false, .scr ns), some (false, .int k), some (true, d), none] = .ok (.own (.lst [.bl true, .bl true])) [some (false, .scr ns), some (false, .int k), some (true, p''), none] := by
    refine eLc_ok (ds := [.int 0, .int 1]) (ρ1 := [some (false, .scr ns), some (false, .int k), some (true, d), none]) ?_ ?_
    · exact iRng_ok (j := 2) (eA_cons (o := .val (.int 2)) rfl eA_nil) rfl (small62 (n := 2) (by decide)).1 (small62 (n := 2) (by decide)).2
    · exact (lcGo_step (ρ := [some (false, .scr ns), some (false, .int k), some (true, d), none]) rfl c1 rfl (by decide)).trans ((lcGo_step (ρ := [some (false, .scr ns), some (false, .int k), some (true, p'), none]) rfl c2 rfl (by decide)).trans rfl)
  have a3 : tNot' (tV (eB [(eLc (iRng [(eC (.int 2))]) [3] (tgN 1 3) tYes' (eCall 1 7 m_law_right [(eV 2)]))] allF)) [some (false, .scr ns), some (false, .int k), some (true, d), none] = .ok false [some (false, .scr ns), some (false, .int k), some (true, p''), none] := tNot_ok (c := true) (tV_ok (eB_ok (eA_cons a2 eA_nil) rfl (o := .val (.bl true)) rfl) rfl)
  exact (sSeq_nx a1).trans ((sIf_ok a3).trans rfl)
theorem law_loop (ns : List Int) : ∀ (ks : List Nat) (x1 x2 : DL.Slot), (∀ k ∈ ks, k < 2 ^ 30) → ∃ y1 y2 : DL.Slot, loopF (tgN 1 1) (sSeq (sAsg 1 2 (eCall 2 5 m_law_pot [(eV 0), (eV 1)]))
  (sIf (tNot' (tV (eB [(eLc (iRng [(eC (.int 2))]) [3] (tgN 1 3) tYes' (eCall 1 7 m_law_right [(eV 2)]))] allF))) (sRet 1 (eC (.bl false))) sNil)) (ks.map fun k => D.int (0 + (k : Nat))) [some (false, .scr ns), x1, x2, none] = .ok .nx [some (false, .scr ns), y1, y2, none]
  | [], x1, x2, _ => ⟨x1, x2, rfl⟩
  | k :: ks, x1, x2, h => by
    obtain ⟨y2, e⟩ := turn_run ns k (h k List.mem_cons_self) x2
    obtain ⟨z1, z2, e'⟩ := law_loop ns ks (some (false, .int k)) y2 fun j hj => h j (List.mem_cons_of_mem _ hj)
    refine ⟨z1, z2, ?_⟩
    rw [List.map_cons]
    refine loop_cons (ρ1 := [some (false, .scr ns), some (false, .int k), x2, none]) ?_ e e'
    rw [Int.zero_add]; rfl
theorem law_run : ∀ ns : List Int, ns.length ≤ 63 → ∃ ρ, m_law (startD 4 [some (false, .scr ns)]) = .ok (.rt (.val (.bl true))) ρ := by
  intro ns hn
  obtain ⟨n, n1, n2, e⟩ := cells_run ns 4 ⟨by decide, by decide⟩ (by omega)
  obtain ⟨y1, y2, el⟩ := law_loop ns (List.range (n - 0).toNat) none none fun k hk => by have := List.mem_range.mp hk; omega
  refine ⟨[some (false, .scr ns), y1, y2, none], ?_⟩
  have h1 : iOf anyK (eCall 2 2 m_law_cells [(eV 0), (eC (.int 4))]) [some (false, .scr ns), none, none, none] = .ok (rgD 0 n) [some (false, .scr ns), none, none, none] := by
    have c : eCall 2 2 m_law_cells [(eV 0), (eC (.int 4))] [some (false, .scr ns), none, none, none] = .ok (.own (.lst (rgD 0 n))) [some (false, .scr ns), none, none, none] :=
      call_own (eA_cons (eV_ok rfl) (eA_cons (o := .val (.int 4)) rfl eA_nil)) rfl rfl rfl e
    show (eCall 2 2 m_law_cells [(eV 0), (eC (.int 4))] _).bind (itO anyK) = _
    rw [c]; rfl
  exact (sSeq_nx (sFor_ok h1 el)).trans rfl
end K02

set_option maxHeartbeats 0
namespace K02
open PySem PySem.Spec PyProof.Rows L2 DL
def fd_0 : DefA := ⟨gloA "_law_cells", some "_law_cells", "_law_cells", "_law_cells", defArgs (top 36), defBody (top 36), defScope (top 36), []⟩
def fd_1 : DefA := ⟨gloA "_law_pot", some "_law_pot", "_law_pot", "_law_pot", defArgs (top 32), defBody (top 32), defScope (top 32), []⟩
def fd_2 : DefA := ⟨gloA "_law_take", some "_law_take", "_law_take", "_law_take", defArgs (top 33), defBody (top 33), defScope (top 33), []⟩
def fd_3 : DefA := ⟨gloA "_law_of", some "_law_of", "_law_of", "_law_of", defArgs (top 34), defBody (top 34), defScope (top 34), []⟩
def fd_4 : DefA := ⟨gloA "_law_some", some "_law_some", "_law_some", "_law_some", defArgs (top 35), defBody (top 35), defScope (top 35), []⟩
def fd_5 : DefA := ⟨gloA "_law_names", some "_law_names", "_law_names", "_law_names", defArgs (top 39), defBody (top 39), defScope (top 39), []⟩
def fd_6 : DefA := ⟨gloA "_law_points", some "_law_points", "_law_points", "_law_points", defArgs (top 40), defBody (top 40), defScope (top 40), []⟩
def fd_7 : DefA := ⟨gloA "_law_town", some "_law_town", "_law_town", "_law_town", defArgs (top 41), defBody (top 41), defScope (top 41), []⟩
def fd_8 : DefA := ⟨gloA "_law_text", some "_law_text", "_law_text", "_law_text", defArgs (top 42), defBody (top 42), defScope (top 42), []⟩
def fd_9 : DefA := ⟨gloA "_law_number_in", some "_law_number_in", "_law_number_in", "_law_number_in", defArgs (top 43), defBody (top 43), defScope (top 43), []⟩
def fd_10 : DefA := ⟨gloA "_law_wrong_line", some "_law_wrong_line", "_law_wrong_line", "_law_wrong_line", defArgs (top 44), defBody (top 44), defScope (top 44), []⟩
def fd_11 : DefA := ⟨gloA "is_name", some "is_name", "is_name", "is_name", defArgs (top 17), defBody (top 17), defScope (top 17), []⟩
def fd_12 : DefA := ⟨gloA "integer_in", some "integer_in", "integer_in", "integer_in", defArgs (top 19), defBody (top 19), defScope (top 19), []⟩
def fd_13 : DefA := ⟨gloA "is_integer", some "is_integer", "is_integer", "is_integer", defArgs (top 15), defBody (top 15), defScope (top 15), [.non, .non]⟩
def fd_14 : DefA := ⟨gloA "place_in", some "place_in", "place_in", "place_in", defArgs (top 26), defBody (top 26), defScope (top 26), []⟩
def fd_15 : DefA := ⟨gloA "can_stand", some "can_stand", "can_stand", "can_stand", defArgs (top 27), defBody (top 27), defScope (top 27), []⟩
def fd_16 : DefA := ⟨gloA "taken", some "taken", "taken", "taken", defArgs (top 28), defBody (top 28), defScope (top 28), []⟩
def fd_17 : DefA := ⟨metA "Town" "__init__", none, "__init__", "Town.__init__", defArgs (inCls (top 30) 1), defBody (inCls (top 30) 1), defScope (inCls (top 30) 1), []⟩
def fd_18 : DefA := ⟨prpA "Town" "text", none, "text", "Town.text", defArgs (inCls (top 30) 2), defBody (inCls (top 30) 2), defScope (inCls (top 30) 2), []⟩
def fd_19 : DefA := ⟨gloA "_law_is_judged", some "_law_is_judged", "_law_is_judged", "_law_is_judged", defArgs (top 46), defBody (top 46), defScope (top 46), []⟩
def fd_20 : DefA := ⟨gloA "_law_spoilt", some "_law_spoilt", "_law_spoilt", "_law_spoilt", defArgs (top 45), defBody (top 45), defScope (top 45), []⟩
def fd_21 : DefA := ⟨gloA "_law_odd", some "_law_odd", "_law_odd", "_law_odd", defArgs (top 38), defBody (top 38), defScope (top 38), []⟩
def fd_22 : DefA := ⟨gloA "_law_right", some "_law_right", "_law_right", "_law_right", defArgs (top 47), defBody (top 47), defScope (top 47), []⟩
def fd_23 : DefA := ⟨gloA "law", some "law", "law", "law", defArgs (top 48), defBody (top 48), defScope (top 48), []⟩
def fd_24 : DefA := ⟨gloA "_law_told", some "_law_told", "_law_told", "_law_told", defArgs (top 37), defBody (top 37), defScope (top 37), []⟩
def fn : List DefA := [fd_0, fd_1, fd_2, fd_3, fd_4, fd_5, fd_6, fd_7, fd_8, fd_9, fd_10, fd_11, fd_12, fd_13, fd_14, fd_15, fd_16, fd_17, fd_18, fd_19, fd_20, fd_21, fd_22, fd_23, fd_24]
def fx1 : List Fx := [.mk "Town", .prop "Town" "text"]
def fx : List Fx := fx1 ++ (owns.map Fx.cls ++ (slots.map (fun z => Fx.slot z.1 z.2.1 z.2.2) ++ cons.map fun z => Fx.con z.1 z.2))
def tfq : List ((PySem.W.Frag → Addr) × Str) := [(gloA "_law_is_judged", "_law_is_judged.<locals>.<lambda>"), (gloA "_law_right", "_law_right.<locals>.<lambda>")]
def loose_0 : List Str := ["Town", "is_integer", "is_tuple", "is_name", "is_one_of", "integer_in", "place_in", "can_stand", "taken", "text_of", "_law_pot", "_law_take", "_law_of", "_law_some", "_law_cells", "_law_told", "_law_odd", "_law_names", "_law_points", "_law_town", "_law_text", "_law_number_in", "_law_wrong_line", "_law_spoilt", "_law_is_judged", "_law_right", "BLANK", "FEED", "MINUS", "LETTERS"]
def loose_1 : List Str := ["FIGURES", "MOST_LETTERS", "TRIPLE", "PLACE", "FEWEST", "MOST", "EDGE", "LINE_SIZE"]
def loose : List Str := errs ++ loose_0 ++ loose_1
abbrev R : PySem.W.OpenRow := PySem.W.OpenLaw.row PySem.Challenge.rw_untoldhomes_k02_texts_of_no_town
abbrev hkk : PySem.W.Hook := DL.hookL prog 5 errs fr fn fx (tfq.map (·.1))
def ob (s : PySem.W.SharedT) : DL.AlK := DL.obL prog 5 errs fr fn fx (tfq.map (·.1)) s
theorem ob_eq (s : PySem.W.SharedT) : ob s = hkk.obs s.abs := DL.obL_eq s
theorem run (w : World) : HandSHeadRun.RunEq R (PySem.W.view R.prog [48]) hkk ob 8000 loose w := by
  intro os
  kernel_rfl
theorem fx_cls : ∀ z ∈ owns, Fx.cls z ∈ fx := fun z hz => List.mem_append_right _ (List.mem_append_left _ (List.mem_map.mpr ⟨z, hz, rfl⟩))
theorem fx_slot : ∀ z ∈ slots, Fx.slot z.1 z.2.1 z.2.2 ∈ fx := fun z hz => List.mem_append_right _ (List.mem_append_right _ (List.mem_append_left _ (List.mem_map.mpr ⟨z, hz, rfl⟩)))
theorem fx_con : ∀ z ∈ cons, Fx.con z.1 z.2 ∈ fx := fun z hz => List.mem_append_right _ (List.mem_append_right _ (List.mem_append_right _ (List.mem_map.mpr ⟨z, hz, rfl⟩)))
theorem sl_own : ∀ z ∈ slots, z.1 ∈ owns := by decide +kernel
theorem facts {w : World} {h : Heap} {mg : Str → Option Value} {fa : Addr} (Y : hkk.says w h) (G : h.Ns mainGlobals mg) (hfa : mg ("law" : Str) = some (.ref fa)) :
    ∃ (K : PySem.W.Frag) (fd : FuncData) (sp : Sp) (cs : List (Addr × Addr)), K.In h ∧ (∀ p ∈ cs, h.get? p.2 = some { cls := .none, data := .fields #[] }) ∧ (∀ p ∈ cs, K.lookup p.2 = none) ∧ (∀ p ∈ cs, PySem.W.CodeHd h p.1 p.2) ∧ (∀ (s : Shared) (u : Value), BindsTo s fd ⟨[u], []⟩ [("_law_script", u)]) ∧
      (∀ (H : Hp) (a : Addr) (ns : List Int), ns.length ≤ 63 → (∀ p ∈ cs, H p.2 = some (.tbl #[])) → SqL K H a (ns.map V.int) → sp [.ref a] H (fun v _ => v = .bl true) fun _ _ _ => False) ∧
      ∀ base : Heap, K.In base → (∀ p ∈ cs, LamX.TabB base mg p.1 p.2) → DL.FnD prog w K mg base 11 fa fd ["_law_script"] sp := by
  obtain ⟨K, X, c⟩ := Y
  obtain ⟨⟨so, sm⟩, eb⟩ := c.err X G (by decide +kernel)
  obtain ⟨CS, hCS⟩ : ∃ CS, mg "HomeError" = some (.ref CS) := by
    obtain ⟨_, _, _, _, _, _, TE⟩ := eb
    obtain ⟨T, h, _⟩ := TE _ (by decide +kernel : ("HomeError" : Str) ∈ errs)
    exact ⟨T, h⟩
  have hk : Kn mg cons := kn_of X G c.fx fx_con
  have hO : OwnL K mg owns := own_of X G c.fx fx_cls
  have hs : SlL K mg slots := sl_of X G c.fx fx_cls sl_own fx_slot
  obtain ⟨f0, F0, _⟩ := c.def_ 0 (d := fd_0) rfl
  have g0 := c.glo X G 0 (d := fd_0) (x := "_law_cells") rfl rfl
  obtain ⟨f1, F1, _⟩ := c.def_ 1 (d := fd_1) rfl
  have g1 := c.glo X G 1 (d := fd_1) (x := "_law_pot") rfl rfl
  obtain ⟨f2, F2, _⟩ := c.def_ 2 (d := fd_2) rfl
  have g2 := c.glo X G 2 (d := fd_2) (x := "_law_take") rfl rfl
  obtain ⟨f3, F3, _⟩ := c.def_ 3 (d := fd_3) rfl
  have g3 := c.glo X G 3 (d := fd_3) (x := "_law_of") rfl rfl
  obtain ⟨f4, F4, _⟩ := c.def_ 4 (d := fd_4) rfl
  have g4 := c.glo X G 4 (d := fd_4) (x := "_law_some") rfl rfl
  obtain ⟨f5, F5, _⟩ := c.def_ 5 (d := fd_5) rfl
  have g5 := c.glo X G 5 (d := fd_5) (x := "_law_names") rfl rfl
  obtain ⟨f6, F6, _⟩ := c.def_ 6 (d := fd_6) rfl
  have g6 := c.glo X G 6 (d := fd_6) (x := "_law_points") rfl rfl
  obtain ⟨f7, F7, _⟩ := c.def_ 7 (d := fd_7) rfl
  have g7 := c.glo X G 7 (d := fd_7) (x := "_law_town") rfl rfl
  obtain ⟨f8, F8, _⟩ := c.def_ 8 (d := fd_8) rfl
  have g8 := c.glo X G 8 (d := fd_8) (x := "_law_text") rfl rfl
  obtain ⟨f9, F9, _⟩ := c.def_ 9 (d := fd_9) rfl
  have g9 := c.glo X G 9 (d := fd_9) (x := "_law_number_in") rfl rfl
  obtain ⟨f10, F10, _⟩ := c.def_ 10 (d := fd_10) rfl
  have g10 := c.glo X G 10 (d := fd_10) (x := "_law_wrong_line") rfl rfl
  obtain ⟨f11, F11, _⟩ := c.def_ 11 (d := fd_11) rfl
  have g11 := c.glo X G 11 (d := fd_11) (x := "is_name") rfl rfl
  obtain ⟨f12, F12, _⟩ := c.def_ 12 (d := fd_12) rfl
  have g12 := c.glo X G 12 (d := fd_12) (x := "integer_in") rfl rfl
  obtain ⟨f13, F13, _⟩ := c.def_ 13 (d := fd_13) rfl
  have g13 := c.glo X G 13 (d := fd_13) (x := "is_integer") rfl rfl
  obtain ⟨f14, F14, _⟩ := c.def_ 14 (d := fd_14) rfl
  have g14 := c.glo X G 14 (d := fd_14) (x := "place_in") rfl rfl
  obtain ⟨f15, F15, _⟩ := c.def_ 15 (d := fd_15) rfl
  have g15 := c.glo X G 15 (d := fd_15) (x := "can_stand") rfl rfl
  obtain ⟨f16, F16, _⟩ := c.def_ 16 (d := fd_16) rfl
  have g16 := c.glo X G 16 (d := fd_16) (x := "taken") rfl rfl
  obtain ⟨f17, F17, _⟩ := c.def_ 17 (d := fd_17) rfl
  obtain ⟨f18, F18, _⟩ := c.def_ 18 (d := fd_18) rfl
  obtain ⟨f19, F19, _⟩ := c.def_ 19 (d := fd_19) rfl
  have g19 := c.glo X G 19 (d := fd_19) (x := "_law_is_judged") rfl rfl
  obtain ⟨f20, F20, _⟩ := c.def_ 20 (d := fd_20) rfl
  have g20 := c.glo X G 20 (d := fd_20) (x := "_law_spoilt") rfl rfl
  obtain ⟨f21, F21, _⟩ := c.def_ 21 (d := fd_21) rfl
  have g21 := c.glo X G 21 (d := fd_21) (x := "_law_odd") rfl rfl
  obtain ⟨f22, F22, _⟩ := c.def_ 22 (d := fd_22) rfl
  have g22 := c.glo X G 22 (d := fd_22) (x := "_law_right") rfl rfl
  obtain ⟨f23, F23, _⟩ := c.def_ 23 (d := fd_23) rfl
  have g23 := c.glo X G 23 (d := fd_23) (x := "law") rfl rfl
  obtain ⟨f24, F24, _⟩ := c.def_ 24 (d := fd_24) rfl
  have g24 := c.glo X G 24 (d := fd_24) (x := "_law_told") rfl rfl
  have ct : CalT prog K mg "_law_told" := ok_told F24 g24 hCS
  obtain ⟨cs1, cs2, cs3⟩ := c.cs X
  have e := hfa.symm.trans g23
  cases e
  refine ⟨K, f23, DL.spM ⟨K, mg, errs, tbK K tfq⟩ 1 4 m_law, csK K tfq, X, cs1, cs2, cs3, fun s v => F23.bindsA (ps := ["_law_script"]) (fun _ _ _ _ _ _ us hl => match us, hl with | [_], _ => rfl) s [v] rfl, fun H a ns hl hH hS => DL.sp_law rfl law_run H a ns hl (tabs_start hH) hS, fun base hb hT => ?_⟩
  have T : DL.Tp prog K mg base errs (tbK K tfq) fr := ⟨⟨eb⟩, ⟨so, hb _ _ sm⟩, fun x hx => c.free X G hx⟩
  have k0 : DL.FnD prog w K mg base 2 _ f0 ["_law_script", "_law_limit"] (spM ⟨K, mg, errs, tbK K tfq⟩ 2 2 m_law_cells) := ok_law_cells T F0 
  have b0 : Binds K f0 ["_law_script", "_law_limit"] [] := F0.bindsN fun _ _ _ _ _ _ us hl => match us, hl with | [_, _], _ => rfl
  have c_law_cells : Cal prog w K mg base 2 ⟨K, mg, errs, tbK K tfq⟩ "_law_cells" 2 2 m_law_cells := ⟨_, f0, _, k0, g0, F0.kp, b0⟩
  have k1 : DL.FnD prog w K mg base 2 _ f1 ["_law_script", "_law_place"] (spM ⟨K, mg, errs, tbK K tfq⟩ 2 5 m_law_pot) := ok_law_pot T F1 
  have b1 : Binds K f1 ["_law_script", "_law_place"] [] := F1.bindsN fun _ _ _ _ _ _ us hl => match us, hl with | [_, _], _ => rfl
  have c_law_pot : Cal prog w K mg base 2 ⟨K, mg, errs, tbK K tfq⟩ "_law_pot" 2 5 m_law_pot := ⟨_, f1, _, k1, g1, F1.kp, b1⟩
  have k2 : DL.FnD prog w K mg base 2 _ f2 ["_law_pot_here", "_law_upto"] (spM ⟨K, mg, errs, tbK K tfq⟩ 2 5 m_law_take) := ok_law_take T F2 
  have b2 : Binds K f2 ["_law_pot_here", "_law_upto"] [] := F2.bindsN fun _ _ _ _ _ _ us hl => match us, hl with | [_, _], _ => rfl
  have c_law_take : Cal prog w K mg base 2 ⟨K, mg, errs, tbK K tfq⟩ "_law_take" 2 5 m_law_take := ⟨_, f2, _, k2, g2, F2.kp, b2⟩
  have k3 : DL.FnD prog w K mg base 3 _ f3 ["_law_pot_here", "_law_some_here"] (spM ⟨K, mg, errs, tbK K tfq⟩ 2 2 m_law_of) := ok_law_of T F3 c_law_take
  have b3 : Binds K f3 ["_law_pot_here", "_law_some_here"] [] := F3.bindsN fun _ _ _ _ _ _ us hl => match us, hl with | [_, _], _ => rfl
  have c_law_of : Cal prog w K mg base 3 ⟨K, mg, errs, tbK K tfq⟩ "_law_of" 2 2 m_law_of := ⟨_, f3, _, k3, g3, F3.kp, b3⟩
  have k4 : DL.FnD prog w K mg base 3 _ f4 ["_law_pot_here", "_law_pool", "_law_many"] (spM ⟨K, mg, errs, tbK K tfq⟩ 3 6 m_law_some) := ok_law_some T F4 c_law_take
  have b4 : Binds K f4 ["_law_pot_here", "_law_pool", "_law_many"] [] := F4.bindsN fun _ _ _ _ _ _ us hl => match us, hl with | [_, _, _], _ => rfl
  have c_law_some : Cal prog w K mg base 3 ⟨K, mg, errs, tbK K tfq⟩ "_law_some" 3 6 m_law_some := ⟨_, f4, _, k4, g4, F4.kp, b4⟩
  have k5 : DL.FnD prog w K mg base 4 _ f5 ["_law_pot_here", "_law_many"] (spM ⟨K, mg, errs, tbK K tfq⟩ 2 3 m_law_names) := ok_law_names T F5 c_law_some
  have b5 : Binds K f5 ["_law_pot_here", "_law_many"] [] := F5.bindsN fun _ _ _ _ _ _ us hl => match us, hl with | [_, _], _ => rfl
  have c_law_names : Cal prog w K mg base 4 ⟨K, mg, errs, tbK K tfq⟩ "_law_names" 2 3 m_law_names := ⟨_, f5, _, k5, g5, F5.kp, b5⟩
  have k6 : DL.FnD prog w K mg base 4 _ f6 ["_law_pot_here", "_law_many", "_law_far"] (spM ⟨K, mg, errs, tbK K tfq⟩ 3 11 m_law_points) := ok_law_points T F6 c_law_take c_law_of
  have b6 : Binds K f6 ["_law_pot_here", "_law_many", "_law_far"] [] := F6.bindsN fun _ _ _ _ _ _ us hl => match us, hl with | [_, _, _], _ => rfl
  have c_law_points : Cal prog w K mg base 4 ⟨K, mg, errs, tbK K tfq⟩ "_law_points" 3 11 m_law_points := ⟨_, f6, _, k6, g6, F6.kp, b6⟩
  have k7 : DL.FnD prog w K mg base 5 _ f7 ["_law_pot_here", "_law_fewest", "_law_most", "_law_far"] (spM ⟨K, mg, errs, tbK K tfq⟩ 4 7 m_law_town) := ok_law_town T F7 c_law_take c_law_names c_law_points
  have b7 : Binds K f7 ["_law_pot_here", "_law_fewest", "_law_most", "_law_far"] [] := F7.bindsN fun _ _ _ _ _ _ us hl => match us, hl with | [_, _, _, _], _ => rfl
  have c_law_town : Cal prog w K mg base 5 ⟨K, mg, errs, tbK K tfq⟩ "_law_town" 4 7 m_law_town := ⟨_, f7, _, k7, g7, F7.kp, b7⟩
  have k8 : DL.FnD prog w K mg base 2 _ f8 ["_law_town_here"] (spM ⟨K, mg, errs, tbK K tfq⟩ 1 4 m_law_text) := ok_law_text T F8 
  have b8 : Binds K f8 ["_law_town_here"] [] := F8.bindsN fun _ _ _ _ _ _ us hl => match us, hl with | [_], _ => rfl
  have c_law_text : Cal prog w K mg base 2 ⟨K, mg, errs, tbK K tfq⟩ "_law_text" 1 4 m_law_text := ⟨_, f8, _, k8, g8, F8.kp, b8⟩
  have k9 : DL.FnD prog w K mg base 2 _ f9 ["_law_word"] (spM ⟨K, mg, errs, tbK K tfq⟩ 1 3 m_law_number_in) := ok_law_number_in T F9 
  have b9 : Binds K f9 ["_law_word"] [] := F9.bindsN fun _ _ _ _ _ _ us hl => match us, hl with | [_], _ => rfl
  have c_law_number_in : Cal prog w K mg base 2 ⟨K, mg, errs, tbK K tfq⟩ "_law_number_in" 1 3 m_law_number_in := ⟨_, f9, _, k9, g9, F9.kp, b9⟩
  have k10 : DL.FnD prog w K mg base 3 _ f10 ["_law_text_here"] (spM ⟨K, mg, errs, tbK K tfq⟩ 1 10 m_law_wrong_line) := ok_law_wrong_line T F10 c_law_number_in
  have b10 : Binds K f10 ["_law_text_here"] [] := F10.bindsN fun _ _ _ _ _ _ us hl => match us, hl with | [_], _ => rfl
  have c_law_wrong_line : Cal prog w K mg base 3 ⟨K, mg, errs, tbK K tfq⟩ "_law_wrong_line" 1 10 m_law_wrong_line := ⟨_, f10, _, k10, g10, F10.kp, b10⟩
  have k11 : DL.FnD prog w K mg base 2 _ f11 ["value"] (spM ⟨K, mg, errs, tbK K tfq⟩ 1 2 m_is_name) := ok_is_name T F11 hk
  have b11 : Binds K f11 ["value"] [] := F11.bindsN fun _ _ _ _ _ _ us hl => match us, hl with | [_], _ => rfl
  have c_is_name : Cal prog w K mg base 2 ⟨K, mg, errs, tbK K tfq⟩ "is_name" 1 2 m_is_name := ⟨_, f11, _, k11, g11, F11.kp, b11⟩
  have k12 : DL.FnD prog w K mg base 2 _ f12 ["word"] (spM ⟨K, mg, errs, tbK K tfq⟩ 1 4 m_integer_in) := ok_integer_in T F12 hk
  have b12 : Binds K f12 ["word"] [] := F12.bindsN fun _ _ _ _ _ _ us hl => match us, hl with | [_], _ => rfl
  have c_integer_in : Cal prog w K mg base 2 ⟨K, mg, errs, tbK K tfq⟩ "integer_in" 1 4 m_integer_in := ⟨_, f12, _, k12, g12, F12.kp, b12⟩
  have k13 : DL.FnD prog w K mg base 2 _ f13 ["value", "low", "high"] (spM ⟨K, mg, errs, tbK K tfq⟩ 3 3 m_is_integer) := ok_is_integer T F13 
  have c_is_integer_3 := CalD.mk' (cs := [.non, .non]) k13 F13 g13 3 2 (by decide) rfl (fun T kV doc pm an cdv ct us its h1 h2 => match us, its, h1, h2 with | [_, _, _], [_, _], _, _ => ⟨_, rfl, rfl⟩)
  have k14 : DL.FnD prog w K mg base 3 _ f14 ["line"] (spM ⟨K, mg, errs, tbK K tfq⟩ 1 5 m_place_in) := ok_place_in T F14 hk c_is_name c_integer_in c_is_integer_3
  have b14 : Binds K f14 ["line"] [] := F14.bindsN fun _ _ _ _ _ _ us hl => match us, hl with | [_], _ => rfl
  have c_place_in : Cal prog w K mg base 3 ⟨K, mg, errs, tbK K tfq⟩ "place_in" 1 5 m_place_in := ⟨_, f14, _, k14, g14, F14.kp, b14⟩
  have k15 : DL.FnD prog w K mg base 2 _ f15 ["places", "place"] (spM ⟨K, mg, errs, tbK K tfq⟩ 2 3 m_can_stand) := ok_can_stand T F15 
  have b15 : Binds K f15 ["places", "place"] [] := F15.bindsN fun _ _ _ _ _ _ us hl => match us, hl with | [_, _], _ => rfl
  have c_can_stand : Cal prog w K mg base 2 ⟨K, mg, errs, tbK K tfq⟩ "can_stand" 2 3 m_can_stand := ⟨_, f15, _, k15, g15, F15.kp, b15⟩
  have k16 : DL.FnD prog w K mg base 4 _ f16 ["text"] (spM ⟨K, mg, errs, tbK K tfq⟩ 1 5 m_taken) := ok_taken T F16 hk c_place_in c_can_stand
  have b16 : Binds K f16 ["text"] [] := F16.bindsN fun _ _ _ _ _ _ us hl => match us, hl with | [_], _ => rfl
  have c_taken : Cal prog w K mg base 4 ⟨K, mg, errs, tbK K tfq⟩ "taken" 1 5 m_taken := ⟨_, f16, _, k16, g16, F16.kp, b16⟩
  have k17 : DL.FnD prog w K mg base 5 _ f17 ["self", "text"] (spI ⟨K, mg, errs, tbK K tfq⟩ "Town" 2 2 ini_Town) := ok_Town___init T F17 hs c_taken
  have b17 : Binds K f17 ["self", "text"] [] := F17.bindsN fun _ _ _ _ _ _ us hl => match us, hl with | [_, _], _ => rfl
  have i_Town := calI_of X G (c.fx (.cls "Town") (fx_cls _ (by decide))) (c.fx (.mk "Town") (List.mem_append_left _ (by first | exact List.mem_cons_self | (simp [fx1])))) k17 b17
  have k18 : DL.FnD prog w K mg base 2 _ f18 ["self"] (spM ⟨K, mg, errs, tbK K tfq⟩ 1 1 m_Town_text) := ok_Town_text T F18 hs
  have b18 : Binds K f18 ["self"] [] := F18.bindsN fun _ _ _ _ _ _ us hl => match us, hl with | [_], _ => rfl
  have p_Town_text := calP_of X G (c.fx (.cls "Town") (fx_cls _ (by decide))) (c.fx (.prop "Town" "text") (List.mem_append_left _ (by first | exact List.mem_cons_self | (simp [fx1])))) k18 b18
  have k19 : DL.FnD prog w K mg base 9 _ f19 ["_law_text_here"] (spM ⟨K, mg, errs, tbK K tfq⟩ 1 4 m_law_is_judged) := ok_law_is_judged T F19 (code_of F19) (tab_base hT 0) (c.one 0) c_law_wrong_line i_Town ct p_Town_text
  have b19 : Binds K f19 ["_law_text_here"] [] := F19.bindsN fun _ _ _ _ _ _ us hl => match us, hl with | [_], _ => rfl
  have c_law_is_judged : Cal prog w K mg base 9 ⟨K, mg, errs, tbK K tfq⟩ "_law_is_judged" 1 4 m_law_is_judged := ⟨_, f19, _, k19, g19, F19.kp, b19⟩
  have k20 : DL.FnD prog w K mg base 4 _ f20 ["_law_pot_here", "_law_rows"] (spM ⟨K, mg, errs, tbK K tfq⟩ 2 9 m_law_spoilt) := ok_law_spoilt T F20 c_law_take c_law_of
  have b20 : Binds K f20 ["_law_pot_here", "_law_rows"] [] := F20.bindsN fun _ _ _ _ _ _ us hl => match us, hl with | [_, _], _ => rfl
  have c_law_spoilt : Cal prog w K mg base 4 ⟨K, mg, errs, tbK K tfq⟩ "_law_spoilt" 2 9 m_law_spoilt := ⟨_, f20, _, k20, g20, F20.kp, b20⟩
  have k21 : DL.FnD prog w K mg base 4 _ f21 ["_law_pot_here"] (spM ⟨K, mg, errs, tbK K tfq⟩ 1 2 m_law_odd) := ok_law_odd T F21 c_law_of
  have b21 : Binds K f21 ["_law_pot_here"] [] := F21.bindsN fun _ _ _ _ _ _ us hl => match us, hl with | [_], _ => rfl
  have c_law_odd : Cal prog w K mg base 4 ⟨K, mg, errs, tbK K tfq⟩ "_law_odd" 1 2 m_law_odd := ⟨_, f21, _, k21, g21, F21.kp, b21⟩
  have k22 : DL.FnD prog w K mg base 10 _ f22 ["_law_pot_here"] (spM ⟨K, mg, errs, tbK K tfq⟩ 1 7 m_law_right) := ok_law_right T F22 (code_of F22) (tab_base hT 1) (c.one 1) c_law_of c_law_town c_law_text c_law_is_judged c_law_spoilt c_law_take c_law_odd i_Town ct c_law_wrong_line
  have b22 : Binds K f22 ["_law_pot_here"] [] := F22.bindsN fun _ _ _ _ _ _ us hl => match us, hl with | [_], _ => rfl
  have c_law_right : Cal prog w K mg base 10 ⟨K, mg, errs, tbK K tfq⟩ "_law_right" 1 7 m_law_right := ⟨_, f22, _, k22, g22, F22.kp, b22⟩
  exact ok_law T F23 c_law_cells c_law_pot c_law_right
end K02
open PySem PySem.W PySem.Calls PyProof.Rows
theorem PySem.Challenge.cw_untoldhomes_k02_texts_of_no_town_holds : PySem.Challenge.rw_untoldhomes_k02_texts_of_no_town.Holds := by
  w_on; o_law
  refine HandSHeadRun.head_any (r := K02.R) (q := view K02.R.prog [48]) (H := K02.hkk) (ob := K02.ob) (M := 8000) (loose := K02.loose) (d := HandSHeadRun.topDef K02.R.prog 48) (kwd := []) K02.ob_eq
    (by kernel_rfl) (fun s => by kernel_rfl) K02.run (by kernel_rfl) (by kernel_rfl) (by kernel_rfl) (by rfl) (by first | assumption | decide +kernel) (by decide +kernel) ⟨rfl, rfl, rfl, rfl, rfl, by decide +kernel⟩ ?hw ?hc
  case hw => w_witness2
  case hc =>
    refine DL.walk_D (l := PySem.Challenge.rw_untoldhomes_k02_texts_of_no_town) (n := 63) (k := 11) (x := "_law_script") rfl (by decide) (by kernel_rfl) ⟨rfl, by decide, by decide⟩ ?F
    intro w mg fa h Y G hmg0
    have hmg : mg ("law" : PySem.Str) = some (.ref fa) := by
      have e : (HandSHeadRun.topDef K02.R.prog 48).name = ("law" : PySem.Str) := by kernel_rfl
      rw [← e]
      exact hmg0
    exact K02.facts Y G hmg

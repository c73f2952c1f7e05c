import PyProof.Rows.All
import Wide.All
import OpenK.AllK
import Wide.FinOn
import HandS.ForMost
import HandS.ForExc
import HandS.IsInst
import HandS.Wide
import HandS.Style
import HandS.Deep
import HandS.More
import HandS.TupAny
import HandS.Text
import HandS.RaiseMore
import HandS.Walk
import HandS.StrMore
import HandS.Head0
import HandS.Head1
import HandS.Head2
import HandS.HeadEnd
import HandS.HeadHook1
import HandS.HeadHook2
import HandS.HeadHook3
import HandS.HeadHook4
import HandS.SetBool
import HandS.SetKeys
import HandS.Ends
import PySem.Challenge.RW_aliasfold_k40_well_formed_trees
set_option Elab.async false
set_option linter.all false
set_option maxRecDepth 100000
set_option maxHeartbeats 4000000
namespace Z
open PySem L2

/-- what a value is, as a tree; ref: an object that may change, by its address -/
inductive D where
  | non | bl (b : Bool) | int (i : Int) | str (x : Str)
  | lst (xs : List D) | tup (xs : List D) | klst (xs : List D)
  | dct (kvs : List (Key × D))
  | ins (C : Addr) (fs : List (Str × D))
  | ref (a : Addr)
  | oth (v : V)

abbrev Mu := Addr → Option D
/-- the set of addresses that stand aside -/
abbrev Ax := Addr → Prop

def isFrz : HO → Bool
  | .frz _ _ => true
  | _ => false
/-- what may be locked while it is walked -/
def lockable : HO → Bool
  | .lst _ => true
  | .dK _ => true
  | .dT _ => true
  | _ => false
/-- a thing that stays as it is -/
def Fz (H : Hp) (μ : Mu) (x : Ax) (a : Addr) (u : HO) : Prop := (H a = some u ∨ (lockable u = true ∧ ∃ o, H a = some (.frz o u))) ∧ isFrz u = false ∧ μ a = none ∧ ¬ x a
theorem Fz.rd {H : Hp} {μ : Mu} {x : Ax} {a : Addr} {u : HO} (h : Fz H μ x a u) : Rd H a u := h.1.imp id fun q => q.2
theorem Fz.hard {H : Hp} {μ : Mu} {x : Ax} {a : Addr} {u : HO} (h : Fz H μ x a u) (l : lockable u = false) : H a = some u := by
  rcases h.1 with e | ⟨e, _⟩
  · exact e
  · rw [l] at e; cases e
def KL (K : PySem.W.Frag) (a : Addr) (xs : List V) : Prop := ∃ (o : Obj) (its : Array Value) (n : Nat), K.lookup a = some o ∧ o.cls = .type "list" ∧ o.dict = none ∧ o.data = .seq its n ∧ its.size ≤ sizeLine ∧ Vals xs its.toList
def KT' (K : PySem.W.Frag) (a : Addr) (xs : List V) : Prop := ∃ (o : Obj) (its : Array Value) (n : Nat), K.lookup a = some o ∧ o.cls = .type "tuple" ∧ o.data = .seq its n ∧ its.size ≤ sizeLine ∧ Vals xs its.toList

mutual
def Rep (K : PySem.W.Frag) (H : Hp) (μ : Mu) (x : Ax) : D → V → Prop
  | .non, v => v = .non
  | .bl b, v => v = .bl b
  | .int i, v => v = .int i
  | .str s, v => v = .str s
  | .lst ds, v => ∃ a vs, v = .ref a ∧ Fz H μ x a (.lst vs) ∧ RepL K H μ x ds vs
  | .klst ds, v => ∃ a vs, v = .ref a ∧ (Fz H μ x a (.lst vs) ∨ KL K a vs) ∧ RepL K H μ x ds vs
  | .tup ds, v => ∃ a vs, v = .ref a ∧ (Fz H μ x a (.tup vs) ∨ KT' K a vs) ∧ RepL K H μ x ds vs
  | .dct kvs, v => ∃ a us, v = .ref a ∧ Fz H μ x a (.dK us) ∧ RepK K H μ x kvs us
  | .ins C fs, v => ∃ a dx gs, v = .ref a ∧ Fz H μ x a (.ins C dx gs) ∧ RepF K H μ x fs gs
  | .ref a, v => v = .ref a
  | .oth w, v => v = w
def RepL (K : PySem.W.Frag) (H : Hp) (μ : Mu) (x : Ax) : List D → List V → Prop
  | [], vs => vs = []
  | d :: ds, vs => ∃ v r, vs = v :: r ∧ Rep K H μ x d v ∧ RepL K H μ x ds r
def RepK (K : PySem.W.Frag) (H : Hp) (μ : Mu) (x : Ax) : List (Key × D) → List (Key × V) → Prop
  | [], vs => vs = []
  | (k, d) :: ds, vs => ∃ v r, vs = (k, v) :: r ∧ Rep K H μ x d v ∧ RepK K H μ x ds r
def RepF (K : PySem.W.Frag) (H : Hp) (μ : Mu) (x : Ax) : List (Str × D) → List (Str × V) → Prop
  | [], vs => vs = []
  | (k, d) :: ds, vs => ∃ v r, vs = (k, v) :: r ∧ Rep K H μ x d v ∧ RepF K H μ x ds r
end
/-- what stays there stays here -/
def Fm (H : Hp) (μ : Mu) (x : Ax) (H' : Hp) (μ' : Mu) (x' : Ax) : Prop := ∀ a u, Fz H μ x a u → Fz H' μ' x' a u
theorem Fm.trans {H H1 H2 : Hp} {μ μ1 μ2 : Mu} {x x1 x2 : Ax} (a : Fm H μ x H1 μ1 x1) (b : Fm H1 μ1 x1 H2 μ2 x2) : Fm H μ x H2 μ2 x2 := fun c u h => b c u (a c u h)
/-- all that stays, stays -/
structure Grow (H : Hp) (μ : Mu) (H' : Hp) (μ' : Mu) (x : Ax) : Prop where
  fz : ∀ a u, Fz H μ x a u → Fz H' μ' x a u
  ax : ∀ a, x a → H' a = H a
theorem Grow.refl {H : Hp} {μ : Mu} {x : Ax} : Grow H μ H μ x := ⟨fun _ _ h => h, fun _ _ => rfl⟩
theorem Grow.trans {H H1 H2 : Hp} {μ μ1 μ2 : Mu} {x : Ax} (a : Grow H μ H1 μ1 x) (b : Grow H1 μ1 H2 μ2 x) : Grow H μ H2 μ2 x :=
  ⟨fun c u h => b.fz c u (a.fz c u h), fun c h => (b.ax c h).trans (a.ax c h)⟩

section
variable {K : PySem.W.Frag} {H H' : Hp} {μ μ' : Mu} {x x' : Ax}
mutual
theorem Rep.mo (g : Fm H μ x H' μ' x') : ∀ (d : D) (v : V), Rep K H μ x d v → Rep K H' μ' x' d v
  | .non, v, h => by simpa [Rep] using h
  | .bl b, v, h => by simpa [Rep] using h
  | .int i, v, h => by simpa [Rep] using h
  | .str s, v, h => by simpa [Rep] using h
  | .lst ds, v, h => by
    simp only [Rep] at h ⊢
    obtain ⟨a, vs, e, q, r⟩ := h
    exact ⟨a, vs, e, g _ _ q, RepL.mo g ds vs r⟩
  | .klst ds, v, h => by
    simp only [Rep] at h ⊢
    obtain ⟨a, vs, e, q, r⟩ := h
    exact ⟨a, vs, e, q.imp (g _ _) id, RepL.mo g ds vs r⟩
  | .tup ds, v, h => by
    simp only [Rep] at h ⊢
    obtain ⟨a, vs, e, q, r⟩ := h
    exact ⟨a, vs, e, q.imp (g _ _) id, RepL.mo g ds vs r⟩
  | .dct kvs, v, h => by
    simp only [Rep] at h ⊢
    obtain ⟨a, us, e, q, r⟩ := h
    exact ⟨a, us, e, g _ _ q, RepK.mo g kvs us r⟩
  | .ins C fs, v, h => by
    simp only [Rep] at h ⊢
    obtain ⟨a, dx, us, e, q, r⟩ := h
    exact ⟨a, dx, us, e, g _ _ q, RepF.mo g fs us r⟩
  | .ref a, v, h => by simpa [Rep] using h
  | .oth w, v, h => by simpa [Rep] using h
theorem RepL.mo (g : Fm H μ x H' μ' x') : ∀ (ds : List D) (vs : List V), RepL K H μ x ds vs → RepL K H' μ' x' ds vs
  | [], vs, h => by simpa [RepL] using h
  | d :: ds, vs, h => by
    simp only [RepL] at h ⊢
    obtain ⟨v, r, e, h1, h2⟩ := h
    exact ⟨v, r, e, Rep.mo g d v h1, RepL.mo g ds r h2⟩
theorem RepK.mo (g : Fm H μ x H' μ' x') : ∀ (ds : List (Key × D)) (vs : List (Key × V)), RepK K H μ x ds vs → RepK K H' μ' x' ds vs
  | [], vs, h => by simpa [RepK] using h
  | (k, d) :: ds, vs, h => by
    simp only [RepK] at h ⊢
    obtain ⟨v, r, e, h1, h2⟩ := h
    exact ⟨v, r, e, Rep.mo g d v h1, RepK.mo g ds r h2⟩
theorem RepF.mo (g : Fm H μ x H' μ' x') : ∀ (ds : List (Str × D)) (vs : List (Str × V)), RepF K H μ x ds vs → RepF K H' μ' x' ds vs
  | [], vs, h => by simpa [RepF] using h
  | (k, d) :: ds, vs, h => by
    simp only [RepF] at h ⊢
    obtain ⟨v, r, e, h1, h2⟩ := h
    exact ⟨v, r, e, Rep.mo g d v h1, RepF.mo g ds r h2⟩
end
theorem Rep.mono (g : Grow H μ H' μ' x) (d : D) (v : V) : Rep K H μ x d v → Rep K H' μ' x d v := Rep.mo g.fz d v
theorem RepL.mono (g : Grow H μ H' μ' x) (d : List D) (v : List V) : RepL K H μ x d v → RepL K H' μ' x d v := RepL.mo g.fz d v
theorem RepK.mono (g : Grow H μ H' μ' x) (d : List (Key × D)) (v : List (Key × V)) : RepK K H μ x d v → RepK K H' μ' x d v := RepK.mo g.fz d v
theorem RepF.mono (g : Grow H μ H' μ' x) (d : List (Str × D)) (v : List (Str × V)) : RepF K H μ x d v → RepF K H' μ' x d v := RepF.mo g.fz d v
end

/-- the object that may change lies as it is told -/
def Own (K : PySem.W.Frag) (H : Hp) (μ : Mu) (x : Ax) (a : Addr) : D → Prop
  | .lst ds => ∃ vs, H a = some (.lst vs) ∧ RepL K H μ x ds vs
  | .dct kvs => ∃ us, H a = some (.dK us) ∧ RepK K H μ x kvs us
  | .ins C fs => ∃ dx gs, H a = some (.ins C dx gs) ∧ RepF K H μ x fs gs
  | _ => False
structure ZH (K : PySem.W.Frag) (H : Hp) (μ : Mu) (x : Ax) : Prop where
  own : ∀ a c, μ a = some c → Own K H μ x a c
  ax : ∀ a, x a → μ a = none ∧ H a ≠ none

abbrev Sl := List (Option D)
structure ZInv (K : PySem.W.Frag) (σ : St) (H : Hp) (ρ : Sl) (μ : Mu) (x : Ax) : Prop where
  len : ρ.length = σ.length
  sl : ∀ (i : Nat) d, ρ[i]? = some (some d) → ∃ v, σ[i]? = some (some v) ∧ Rep K H μ x d v
  zh : ZH K H μ x
theorem ZInv.grow {K : PySem.W.Frag} {σ : St} {H H' : Hp} {ρ : Sl} {μ μ' : Mu} {x : Ax} (I : ZInv K σ H ρ μ x) (g : Grow H μ H' μ' x) (z : ZH K H' μ' x) : ZInv K σ H' ρ μ' x :=
  ⟨I.len, fun i d h => let ⟨v, e, r⟩ := I.sl i d h; ⟨v, e, r.mono g⟩, z⟩
theorem ZInv.set {K : PySem.W.Frag} {σ : St} {H : Hp} {ρ : Sl} {μ : Mu} {x : Ax} (I : ZInv K σ H ρ μ x) {d : D} {v : V} (r : Rep K H μ x d v) (i : Nat) : ZInv K (σ.set i (some v)) H (ρ.set i (some d)) μ x := by
  refine ⟨by simp [I.len], fun j e h => ?_, I.zh⟩
  by_cases hj : i = j
  · subst hj
    by_cases hl : i < ρ.length
    · rw [List.getElem?_set_self hl] at h
      cases h
      exact ⟨v, List.getElem?_set_self (by rw [← I.len]; exact hl), r⟩
    · rw [List.getElem?_eq_none (by simpa using hl)] at h
      cases h
  · rw [List.getElem?_set_ne hj] at h ⊢
    exact I.sl j e h

/-- an own error: its class, its fields -/
structure Err where
  C : Addr
  fs : List (Str × D)
def ErrRep (K : PySem.W.Frag) (H : Hp) (μ : Mu) (x : Ax) (r : Err) (cls : Value) (dd : Option Addr) : Prop :=
  cls = .ref r.C ∧ (r.fs = [] ∨ ∃ d gs, dd = some d ∧ Fz H μ x d (.xd gs) ∧ RepF K H μ x r.fs gs)

abbrev ZW := Err → Sl → Mu → Prop
/-- the wish for exceptions fits -/
def WC (K : PySem.W.Frag) (W : WX) (w : ZW) (H : Hp) (μ : Mu) (x : Ax) : Prop :=
  ∀ σ' H' ρ' μ' cls dd r, Grow H μ H' μ' x → ZInv K σ' H' ρ' μ' x → ErrRep K H' μ' x r cls dd → w r ρ' μ' → W cls dd σ' H'
theorem WC.grow {K : PySem.W.Frag} {W : WX} {w : ZW} {H H' : Hp} {μ μ' : Mu} {x : Ax} (h : WC K W w H μ x) (g : Grow H μ H' μ' x) : WC K W w H' μ' x :=
  fun σ2 H2 ρ2 μ2 cls dd r g2 => h σ2 H2 ρ2 μ2 cls dd r (g.trans g2)

/-! ### readings of values -/
abbrev ZQ := D → Mu → Prop
abbrev ZX := Err → Mu → Prop
abbrev ZT := Sl → Mu → ZQ → ZX → Prop
abbrev ZB := Sl → Mu → (Bool → Mu → Prop) → ZX → Prop
abbrev ZA := Sl → Mu → (List D → Mu → Prop) → ZX → Prop

def LE (K : PySem.W.Frag) (W : WX) (t : TE) (z : ZT) : Prop :=
  ∀ (x : Ax) (σ : St) (H : Hp) (ρ : Sl) (μ : Mu) (q : ZQ) (w : ZW) (Q : VK), ZInv K σ H ρ μ x → WC K W w H μ x → z ρ μ q (fun r μ' => w r ρ μ') →
    (∀ d v H' μ', Grow H μ H' μ' x → ZH K H' μ' x → Rep K H' μ' x d v → q d μ' → Q v H') → t σ H Q
def LT (K : PySem.W.Frag) (W : WX) (t : TT) (z : ZB) : Prop :=
  ∀ (x : Ax) (σ : St) (H : Hp) (ρ : Sl) (μ : Mu) (q : Bool → Mu → Prop) (w : ZW) (Q : Bool → Hp → Prop), ZInv K σ H ρ μ x → WC K W w H μ x → z ρ μ q (fun r μ' => w r ρ μ') →
    (∀ b H' μ', Grow H μ H' μ' x → ZH K H' μ' x → q b μ' → Q b H') → t σ H Q
def LA (K : PySem.W.Frag) (W : WX) (n : Nat) (t : TA) (z : ZA) : Prop :=
  ∀ (x : Ax) (σ : St) (H : Hp) (ρ : Sl) (μ : Mu) (q : List D → Mu → Prop) (w : ZW) (Q : List V → Hp → Prop), ZInv K σ H ρ μ x → WC K W w H μ x → z ρ μ q (fun r μ' => w r ρ μ') →
    (∀ ds vs H' μ', Grow H μ H' μ' x → ZH K H' μ' x → RepL K H' μ' x ds vs → vs.length = n → q ds μ' → Q vs H') → t σ H Q

/-! ### statements -/
structure ZEnds where
  nx : Sl → Mu → Prop
  rt : ZQ
  bk : Sl → Mu → Prop := fun _ _ => False
  ct : Sl → Mu → Prop := fun _ _ => False
  ex : ZW := fun _ _ _ => False
abbrev ZS := ZEnds → Sl → Mu → Prop
structure EOk (K : PySem.W.Frag) (H : Hp) (μ : Mu) (x : Ax) (D : ZEnds) (D' : Ends) : Prop where
  nx : ∀ σ' H' ρ' μ', Grow H μ H' μ' x → ZInv K σ' H' ρ' μ' x → D.nx ρ' μ' → D'.nx σ' H'
  rt : ∀ d v H' μ', Grow H μ H' μ' x → ZH K H' μ' x → Rep K H' μ' x d v → D.rt d μ' → D'.rt v H'
  bk : ∀ σ' H' ρ' μ', Grow H μ H' μ' x → ZInv K σ' H' ρ' μ' x → D.bk ρ' μ' → D'.bk σ' H'
  ct : ∀ σ' H' ρ' μ', Grow H μ H' μ' x → ZInv K σ' H' ρ' μ' x → D.ct ρ' μ' → D'.ct σ' H'
theorem EOk.grow {K : PySem.W.Frag} {H H' : Hp} {μ μ' : Mu} {x : Ax} {D : ZEnds} {D' : Ends} (e : EOk K H μ x D D') (g : Grow H μ H' μ' x) : EOk K H' μ' x D D' :=
  ⟨fun s h r m g2 => e.nx s h r m (g.trans g2), fun s h r m g2 => e.rt s h r m (g.trans g2), fun s h r m g2 => e.bk s h r m (g.trans g2), fun s h r m g2 => e.ct s h r m (g.trans g2)⟩
def LS (K : PySem.W.Frag) (W : WX) (t : TS) (z : ZS) : Prop :=
  ∀ (x : Ax) (σ : St) (H : Hp) (ρ : Sl) (μ : Mu) (D : ZEnds) (D' : Ends), ZInv K σ H ρ μ x → WC K W D.ex H μ x → z D ρ μ → EOk K H μ x D D' → t D' σ H

/-! ### the judgements -/
structure ZE (X : Cx) (W : WX) (e : Expr) (t : TE) (z : ZT) : Prop where
  p : PE X e t
  l : LE X.K W t z
structure ZTe (X : Cx) (W : WX) (e : Expr) (t : TT) (z : ZB) : Prop where
  p : PT X e t
  l : LT X.K W t z
structure ZTw (X : Cx) (W : WX) (e : Expr) (t : TT) (z : ZB) : Prop where
  p : PW X e t
  l : LT X.K W t z
structure ZAr (X : Cx) (W : WX) (n : Nat) (es : List Expr) (t : TA) (z : ZA) : Prop where
  p : PA X es t
  l : LA X.K W n t z
structure ZSt (X : Cx) (W : WX) (st : Stmt) (t : TS) (z : ZS) : Prop where
  p : PS X st t
  l : LS X.K W t z
structure ZSs (X : Cx) (W : WX) (st : List Stmt) (t : TS) (z : ZS) : Prop where
  p : PSs X st t
  l : LS X.K W t z
end Z

set_option maxRecDepth 100000
set_option maxHeartbeats 4000000
namespace Z
open PySem L2

/-! ### heaps -/
def updM (μ : Mu) (a : Addr) (c : D) : Mu := fun b => if b = a then some c else μ b
def delM (μ : Mu) (a : Addr) : Mu := fun b => if b = a then none else μ b
@[simp] theorem updM_same {μ : Mu} {a : Addr} {c : D} : updM μ a c a = some c := by unfold updM; rw [if_pos rfl]
theorem updM_ne {μ : Mu} {a b : Addr} {c : D} (h : b ≠ a) : updM μ a c b = μ b := by unfold updM; rw [if_neg h]
@[simp] theorem updM_updM {μ : Mu} {a : Addr} {c d : D} : updM (updM μ a c) a d = updM μ a d := by
  funext b; unfold updM; split <;> rfl
@[simp] theorem delM_same {μ : Mu} {a : Addr} : delM μ a a = none := by unfold delM; rw [if_pos rfl]
theorem delM_ne {μ : Mu} {a b : Addr} (h : b ≠ a) : delM μ a b = μ b := by unfold delM; rw [if_neg h]
theorem delM_updM {μ : Mu} {a : Addr} {c : D} (h : μ a = none) : delM (updM μ a c) a = μ := by
  funext b; unfold delM updM; split
  · rename_i e; subst e; exact h.symm
  · rfl
@[simp] theorem delM_updM' {μ : Mu} {a : Addr} {c : D} : delM (updM μ a c) a = delM μ a := by
  funext b; unfold delM updM; split <;> rfl

section
variable {K : PySem.W.Frag} {H H' : Hp} {μ μ' : Mu} {x : Ax} {a p : Addr} {o : HO} {c d : D} {v : V}
theorem Own.there (h : Own K H μ x a c) : ∃ o, H a = some o := by
  cases c <;> simp only [Own] at h
  all_goals first | exact h.elim | (obtain ⟨_, e, _⟩ := h; exact ⟨_, e⟩) | (obtain ⟨_, _, e, _⟩ := h; exact ⟨_, e⟩)
theorem ZH.fresh (z : ZH K H μ x) (h : H p = none) : μ p = none ∧ ¬ x p := by
  refine ⟨?_, fun hx => (z.ax p hx).2 h⟩
  cases e : μ p with
  | none => rfl
  | some c =>
    obtain ⟨o, e2⟩ := (z.own p c e).there
    rw [h] at e2
    cases e2
theorem Own.mo {x' : Ax} (g : Fm H μ x H' μ' x') (e : H' a = H a) (h : Own K H μ x a c) : Own K H' μ' x' a c := by
  cases c <;> simp only [Own] at h ⊢
  · obtain ⟨vs, e1, r⟩ := h; exact ⟨vs, e.trans e1, RepL.mo g _ _ r⟩
  · obtain ⟨vs, e1, r⟩ := h; exact ⟨vs, e.trans e1, RepK.mo g _ _ r⟩
  · obtain ⟨dx, vs, e1, r⟩ := h; exact ⟨dx, vs, e.trans e1, RepF.mo g _ _ r⟩
theorem Own.mono (g : Grow H μ H' μ' x) (e : H' a = H a) (h : Own K H μ x a c) : Own K H' μ' x a c := by
  cases c <;> simp only [Own] at h ⊢
  · obtain ⟨vs, e1, r⟩ := h; exact ⟨vs, e.trans e1, RepL.mono g _ _ r⟩
  · obtain ⟨vs, e1, r⟩ := h; exact ⟨vs, e.trans e1, RepK.mono g _ _ r⟩
  · obtain ⟨dx, vs, e1, r⟩ := h; exact ⟨dx, vs, e.trans e1, RepF.mono g _ _ r⟩
theorem Grow.new (h : H p = none) (hx : ¬ x p) : Grow H μ (upd H p o) μ x := by
  refine ⟨fun b u ⟨e, f, m, n⟩ => ⟨?_, f, m, n⟩, fun b hb => ?_⟩
  · have hb : b ≠ p := by
      rintro rfl
      rcases e with e | ⟨_, _, e⟩ <;> (rw [h] at e; cases e)
    rw [upd_ne hb]
    exact e
  · exact upd_ne (fun z => hx (z ▸ hb))
theorem ZH.gnew (z : ZH K H μ x) (h : H p = none) : Grow H μ (upd H p o) μ x := Grow.new h (z.fresh h).2
theorem ZH.new (z : ZH K H μ x) (h : H p = none) : ZH K (upd H p o) μ x := by
  refine ⟨fun b c e => ?_, fun b hb => ⟨(z.ax b hb).1, ?_⟩⟩
  · have w := z.own b c e
    obtain ⟨u, hu⟩ := w.there
    exact w.mono (z.gnew h) (upd_ne (ne_of_none hu h))
  · by_cases e : b = p
    · subst e; rw [upd_same]; exact fun z => nomatch z
    · rw [upd_ne e]; exact (z.ax b hb).2
theorem Fz.new (z : ZH K H μ x) (h : H p = none) (hf : isFrz o = false) : Fz (upd H p o) μ x p o := ⟨.inl upd_same, hf, (z.fresh h).1, (z.fresh h).2⟩
/-- a new object that may change -/
theorem ZH.gown (z : ZH K H μ x) (h : H p = none) : Grow H μ (upd H p o) (updM μ p c) x := by
  have g := z.gnew (o := o) h
  refine ⟨fun b u q => ?_, g.ax⟩
  obtain ⟨e, f, m, n⟩ := g.fz b u q
  refine ⟨e, f, ?_, n⟩
  rw [updM_ne]; exact m
  rintro rfl
  rcases q.1 with e | ⟨_, _, e⟩ <;> (rw [h] at e; cases e)
theorem ZH.onew (z : ZH K H μ x) (h : H p = none) (w : Own K (upd H p o) (updM μ p c) x p c) : ZH K (upd H p o) (updM μ p c) x := by
  refine ⟨fun b d e => ?_, fun b hb => ?_⟩
  · by_cases hb : b = p
    · subst hb; rw [updM_same] at e; cases e; exact w
    · rw [updM_ne hb] at e
      exact (z.own b d e).mono (z.gown h) (upd_ne hb)
  · have hp : b ≠ p := fun q => (z.fresh h).2 (q ▸ hb)
    rw [updM_ne hp, upd_ne hp]
    exact z.ax b hb
/-- an object that may change is written -/
theorem ZH.gwrite (z : ZH K H μ x) (h : μ a = some c) : Grow H μ (upd H a o) (updM μ a d) x := by
  refine ⟨fun b u ⟨e, f, m, n⟩ => ?_, fun b hb => upd_ne ?_⟩
  · have hb : b ≠ a := by rintro rfl; rw [h] at m; cases m
    exact ⟨by rw [upd_ne hb]; exact e, f, by rw [updM_ne hb]; exact m, n⟩
  · rintro rfl; have := (z.ax b hb).1; rw [h] at this; cases this
theorem ZH.write (z : ZH K H μ x) (h : μ a = some c) (w : Own K (upd H a o) (updM μ a d) x a d) : ZH K (upd H a o) (updM μ a d) x := by
  refine ⟨fun b d' e => ?_, fun b hb => ?_⟩
  · by_cases hb : b = a
    · subst hb; rw [updM_same] at e; cases e; exact w
    · rw [updM_ne hb] at e
      exact (z.own b d' e).mono (z.gwrite h) (upd_ne hb)
  · have hp : b ≠ a := by rintro rfl; have := (z.ax b hb).1; rw [h] at this; cases this
    rw [updM_ne hp, upd_ne hp]
    exact z.ax b hb
/-- an object that may change stays as it is from here on -/
theorem ZH.gfreeze : Grow H μ H (delM μ a) x :=
  ⟨fun b u ⟨e, f, m, n⟩ => ⟨e, f, by unfold delM; split; rfl; exact m, n⟩, fun _ _ => rfl⟩
theorem ZH.freeze (z : ZH K H μ x) : ZH K H (delM μ a) x := by
  refine ⟨fun b c e => ?_, fun b hb => ⟨by unfold delM; split; rfl; exact (z.ax b hb).1, (z.ax b hb).2⟩⟩
  have hb : b ≠ a := by rintro rfl; rw [delM_same] at e; cases e
  rw [delM_ne hb] at e
  exact (z.own b c e).mono ZH.gfreeze rfl
theorem ZH.frozen (z : ZH K H μ x) (h : μ a = some c) : Rep K H (delM μ a) x c (.ref a) := by
  have w := z.own a c h
  have nx : ¬ x a := fun q => by have := (z.ax a q).1; rw [h] at this; cases this
  cases c <;> simp only [Own] at w
  all_goals first | exact w.elim | skip
  · obtain ⟨vs, e, r⟩ := w
    simp only [Rep]
    exact ⟨a, vs, rfl, ⟨.inl e, rfl, delM_same, nx⟩, RepL.mono ZH.gfreeze _ _ r⟩
  · obtain ⟨vs, e, r⟩ := w
    simp only [Rep]
    exact ⟨a, vs, rfl, ⟨.inl e, rfl, delM_same, nx⟩, RepK.mono ZH.gfreeze _ _ r⟩
  · obtain ⟨dx, vs, e, r⟩ := w
    simp only [Rep]
    exact ⟨a, dx, vs, rfl, ⟨.inl e, rfl, delM_same, nx⟩, RepF.mono ZH.gfreeze _ _ r⟩

/-- one address more stands aside -/
def addX (x : Ax) (p : Addr) : Ax := fun a => x a ∨ a = p
theorem Fm.aside (h : H p = none) : Fm H μ x (upd H p o) μ (addX x p) := fun b u ⟨e, f, m, n⟩ => by
  have hb : b ≠ p := by
    rintro rfl
    rcases e with e | ⟨_, _, e⟩ <;> (rw [h] at e; cases e)
  exact ⟨by rw [upd_ne hb]; exact e, f, m, fun q => q.elim n hb⟩
theorem Fm.back : Fm H μ (addX x p) H μ x := fun b u ⟨e, f, m, n⟩ => ⟨e, f, m, fun q => n (.inl q)⟩
theorem ZH.aside (z : ZH K H μ x) (h : H p = none) : ZH K (upd H p o) μ (addX x p) := by
  refine ⟨fun b c e => ?_, fun b hb => ?_⟩
  · have w := z.own b c e
    obtain ⟨u, hu⟩ := w.there
    exact w.mo (Fm.aside h) (upd_ne (ne_of_none hu h))
  · rcases hb with hb | rfl
    · have q := z.ax b hb
      have hp : b ≠ p := fun e => q.2 (e ▸ h)
      rw [upd_ne hp]
      exact q
    · exact ⟨(z.fresh h).1, by rw [upd_same]; exact fun q => nomatch q⟩
theorem ZH.back (z : ZH K H μ (addX x p)) : ZH K H μ x := ⟨fun b c e => (z.own b c e).mo Fm.back rfl, fun b hb => z.ax b (.inl hb)⟩
/-- what stands aside is written -/
theorem ZH.wside (z : ZH K H μ (addX x p)) (o : HO) : Fm H μ (addX x p) (upd H p o) μ (addX x p) ∧ ZH K (upd H p o) μ (addX x p) := by
  have f : Fm H μ (addX x p) (upd H p o) μ (addX x p) := fun b u ⟨e, f, m, n⟩ => ⟨by rw [upd_ne (fun q => n (.inr q))]; exact e, f, m, n⟩
  refine ⟨f, fun b c e => (z.own b c e).mo f (upd_ne ?_), fun b hb => ⟨(z.ax b hb).1, ?_⟩⟩
  · rintro rfl; have := (z.ax b (.inr rfl)).1; rw [e] at this; cases this
  · by_cases e : b = p
    · subst e; rw [upd_same]; exact fun q => nomatch q
    · rw [upd_ne e]; exact (z.ax b hb).2
theorem RepL.length : ∀ {ds : List D} {vs : List V}, RepL K H μ x ds vs → ds.length = vs.length
  | [], vs, h => by simp only [RepL] at h; subst h; rfl
  | d :: ds, vs, h => by
    simp only [RepL] at h
    obtain ⟨v, r, rfl, _, h2⟩ := h
    simp [RepL.length h2]
theorem RepL.get : ∀ {ds : List D} {vs : List V} {i : Nat} {d : D}, RepL K H μ x ds vs → ds[i]? = some d → ∃ v, vs[i]? = some v ∧ Rep K H μ x d v
  | [], vs, i, d, h, e => by simp at e
  | d :: ds, vs, 0, d', h, e => by
    simp only [RepL] at h
    obtain ⟨v, r, rfl, h1, h2⟩ := h
    simp at e
    subst e
    exact ⟨v, rfl, h1⟩
  | d :: ds, vs, i + 1, d', h, e => by
    simp only [RepL] at h
    obtain ⟨v, r, rfl, h1, h2⟩ := h
    obtain ⟨v', e1, e2⟩ := RepL.get (i := i) (d := d') h2 (by simpa using e)
    exact ⟨v', by simpa using e1, e2⟩
theorem RepL.getR : ∀ {ds : List D} {vs : List V} {i : Nat} {v : V}, RepL K H μ x ds vs → vs[i]? = some v → ∃ d, ds[i]? = some d ∧ Rep K H μ x d v := fun {ds vs i v} h e => by
  have hl := h.length
  obtain ⟨hi, _⟩ := List.getElem?_eq_some_iff.mp e
  obtain ⟨v', e1, e2⟩ := h.get (i := i) (d := ds[i]'(by omega)) (List.getElem?_eq_getElem _)
  rw [e] at e1
  cases e1
  exact ⟨_, List.getElem?_eq_getElem _, e2⟩
theorem RepL.append : ∀ {ds es : List D} {vs us : List V}, RepL K H μ x ds vs → RepL K H μ x es us → RepL K H μ x (ds ++ es) (vs ++ us)
  | [], es, vs, us, h, h' => by simp only [RepL] at h; subst h; exact h'
  | d :: ds, es, vs, us, h, h' => by
    simp only [RepL] at h
    obtain ⟨v, r, rfl, h1, h2⟩ := h
    show RepL K H μ x (d :: (ds ++ es)) (v :: (r ++ us))
    simp only [RepL]
    exact ⟨v, r ++ us, rfl, h1, h2.append h'⟩
theorem RepL.one (h : Rep K H μ x d v) : RepL K H μ x [d] [v] := by
  simp only [RepL]; exact ⟨v, [], rfl, h, rfl⟩
theorem RepL.drop : ∀ {ds : List D} {vs : List V} (n : Nat), RepL K H μ x ds vs → RepL K H μ x (ds.drop n) (vs.drop n)
  | ds, vs, 0, h => h
  | [], vs, n + 1, h => by simp only [RepL] at h; subst h; simp [RepL]
  | d :: ds, vs, n + 1, h => by
    simp only [RepL] at h
    obtain ⟨v, r, rfl, h1, h2⟩ := h
    simpa using h2.drop n
theorem RepL.take : ∀ {ds : List D} {vs : List V} (n : Nat), RepL K H μ x ds vs → RepL K H μ x (ds.take n) (vs.take n)
  | ds, vs, 0, h => by simp [RepL]
  | [], vs, n + 1, h => by simp only [RepL] at h; subst h; simp [RepL]
  | d :: ds, vs, n + 1, h => by
    simp only [RepL] at h
    obtain ⟨v, r, rfl, h1, h2⟩ := h
    simp only [List.take_succ_cons, RepL]
    exact ⟨v, r.take n, rfl, h1, h2.take n⟩
theorem RepL.set : ∀ {ds : List D} {vs : List V} (n : Nat), RepL K H μ x ds vs → Rep K H μ x d v → RepL K H μ x (ds.set n d) (vs.set n v)
  | [], vs, n, h, _ => by simp only [RepL] at h; subst h; simp [RepL]
  | e :: ds, vs, 0, h, q => by
    simp only [RepL] at h
    obtain ⟨v', r, rfl, h1, h2⟩ := h
    simp only [List.set_cons_zero, RepL]
    exact ⟨v, r, rfl, q, h2⟩
  | e :: ds, vs, n + 1, h, q => by
    simp only [RepL] at h
    obtain ⟨v', r, rfl, h1, h2⟩ := h
    simp only [List.set_cons_succ, RepL]
    exact ⟨v', r.set n v, rfl, h1, h2.set n q⟩
theorem RepL.eraseIdx : ∀ {ds : List D} {vs : List V} (n : Nat), RepL K H μ x ds vs → RepL K H μ x (ds.eraseIdx n) (vs.eraseIdx n)
  | [], vs, n, h => by simp only [RepL] at h; subst h; simp [RepL]
  | d :: ds, vs, 0, h => by
    simp only [RepL] at h
    obtain ⟨v, r, rfl, h1, h2⟩ := h
    simpa using h2
  | d :: ds, vs, n + 1, h => by
    simp only [RepL] at h
    obtain ⟨v, r, rfl, h1, h2⟩ := h
    simp only [List.eraseIdx_cons_succ, RepL]
    exact ⟨v, _, rfl, h1, h2.eraseIdx n⟩
theorem RepL.dropLast (h : RepL K H μ x ds vs) : RepL K H μ x ds.dropLast vs.dropLast := by
  rw [List.dropLast_eq_take, List.dropLast_eq_take, h.length]; exact h.take _
theorem RepL.reverse : ∀ {ds : List D} {vs : List V}, RepL K H μ x ds vs → RepL K H μ x ds.reverse vs.reverse
  | [], vs, h => by simp only [RepL] at h; subst h; simp [RepL]
  | d :: ds, vs, h => by
    simp only [RepL] at h
    obtain ⟨v, r, rfl, h1, h2⟩ := h
    rw [List.reverse_cons, List.reverse_cons]
    exact h2.reverse.append (RepL.one h1)
end

/-! ### what may be read of a value -/
def lstOf (d : D) (μ : Mu) : Option (List D) := match d with
  | .klst ds => some ds
  | .lst ds => some ds
  | .ref a => match μ a with
    | some (.lst ds) => some ds
    | _ => none
  | _ => none
def seqOf (d : D) (μ : Mu) : Option (List D) := match d with
  | .klst ds => some ds
  | .tup ds => some ds
  | .lst ds => some ds
  | .ref a => match μ a with
    | some (.lst ds) => some ds
    | _ => none
  | _ => none
def dctOf (d : D) (μ : Mu) : Option (List (Key × D)) := match d with
  | .dct ds => some ds
  | .ref a => match μ a with
    | some (.dct ds) => some ds
    | _ => none
  | _ => none
def insOf (d : D) (μ : Mu) : Option (Addr × List (Str × D)) := match d with
  | .ins C ds => some (C, ds)
  | .ref a => match μ a with
    | some (.ins C ds) => some (C, ds)
    | _ => none
  | _ => none
section
variable {K : PySem.W.Frag} {H H' : Hp} {μ μ' : Mu} {x : Ax} {a p : Addr} {o : HO} {c d : D} {v : V} {ds : List D}
theorem lst_of (z : ZH K H μ x) (r : Rep K H μ x d v) (h : lstOf d μ = some ds) : ∃ a vs, v = .ref a ∧ SqL K H a vs ∧ RepL K H μ x ds vs := by
  cases d with
  | lst es =>
    have e : es = ds := Option.some.inj h
    subst e
    simp only [Rep] at r
    obtain ⟨a, vs, e, q, r⟩ := r
    exact ⟨a, vs, e, .inl q.rd, r⟩
  | klst es =>
    have e : es = ds := Option.some.inj h
    subst e
    simp only [Rep] at r
    obtain ⟨a, vs, e, q, r⟩ := r
    exact ⟨a, vs, e, q.imp Fz.rd id, r⟩
  | ref a =>
    simp only [Rep] at r
    simp only [lstOf] at h
    split at h
    · rename_i es e
      have e' : es = ds := Option.some.inj h
      subst e'
      have w := z.own a _ e
      simp only [Own] at w
      obtain ⟨vs, e1, r1⟩ := w
      exact ⟨a, vs, r, SqL.of e1, r1⟩
    · cases h
  | _ => cases h
theorem seq_of (z : ZH K H μ x) (r : Rep K H μ x d v) (h : seqOf d μ = some ds) : ∃ a vs, v = .ref a ∧ (SqL K H a vs ∨ SqT K H a vs) ∧ RepL K H μ x ds vs := by
  cases d with
  | lst es =>
    obtain ⟨a, vs, e, q, r⟩ := lst_of z r (ds := ds) h
    exact ⟨a, vs, e, .inl q, r⟩
  | ref a =>
    obtain ⟨a, vs, e, q, r⟩ := lst_of z r (ds := ds) h
    exact ⟨a, vs, e, .inl q, r⟩
  | klst a =>
    obtain ⟨a, vs, e, q, r⟩ := lst_of z r (ds := ds) h
    exact ⟨a, vs, e, .inl q, r⟩
  | tup es =>
    have e : es = ds := Option.some.inj h
    subst e
    simp only [Rep] at r
    obtain ⟨a, vs, e, q, r⟩ := r
    exact ⟨a, vs, e, .inr (q.imp Fz.rd id), r⟩
  | _ => cases h
theorem dct_of {kvs : List (Key × D)} (z : ZH K H μ x) (r : Rep K H μ x d v) (h : dctOf d μ = some kvs) : ∃ a us, v = .ref a ∧ Rd H a (.dK us) ∧ RepK K H μ x kvs us := by
  cases d with
  | dct es =>
    have e : es = kvs := Option.some.inj h
    subst e
    simp only [Rep] at r
    obtain ⟨a, vs, e, q, r⟩ := r
    exact ⟨a, vs, e, q.rd, r⟩
  | ref a =>
    simp only [Rep] at r
    simp only [dctOf] at h
    split at h
    · rename_i es e
      have e' : es = kvs := Option.some.inj h
      subst e'
      have w := z.own a _ e
      simp only [Own] at w
      obtain ⟨vs, e1, r1⟩ := w
      exact ⟨a, vs, r, .inl e1, r1⟩
    · cases h
  | _ => cases h
end
end Z

set_option maxRecDepth 100000
set_option maxHeartbeats 4000000
namespace Z
open PySem L2

/-! ### names, constants -/
def sget : Sl → Nat → Option D
  | [], _ => none
  | d :: _, 0 => d
  | _ :: r, n + 1 => sget r n
theorem sget_eq : ∀ (ρ : Sl) (i : Nat) (d : D), sget ρ i = some d → ρ[i]? = some (some d)
  | [], i, d, h => by cases h
  | e :: r, 0, d, h => by simp only [sget] at h; subst h; rfl
  | e :: r, n + 1, d, h => by simpa using sget_eq r n d h
def zVar (i : Nat) : ZT := fun ρ μ q _ => match sget ρ i with
  | some d => q d μ
  | none => False
def zC (d : D) : ZT := fun _ μ q _ => q d μ
section
variable {K : PySem.W.Frag} {W : WX}
theorem le_var {i : Nat} : LE K W (tVar i) (zVar i) := fun x σ H ρ μ q w Q I c h k => by
  unfold zVar at h
  split at h
  · rename_i d e
    obtain ⟨v, e1, r⟩ := I.sl i d (sget_eq ρ i d e)
    exact ⟨v, e1, k d v H μ Grow.refl I.zh r h⟩
  · exact h.elim
theorem le_c {d : D} {v : V} (r : ∀ H μ x, Rep K H μ x d v) : LE K W (tC v) (zC d) := fun x σ H ρ μ q w Q I c h k => k d v H μ Grow.refl I.zh (r H μ x) h
end
section
variable {X : Cx} {W : WX}
theorem zv (i : Nat) {x : Str} {pos : Pos} (hN : X.N[i]? = some x := by rfl) (hv : Vis X.env.scope x := by first | exact Or.inl rfl | exact Or.inr (Or.inl rfl) | exact Or.inr (Or.inr rfl)) (hd : (x == ("__debug__" : Str)) = false := by decide)
    (hcd : (x == ("__classdict__" : Str)) = false := by decide) : ZE X W (.Name x pos) (tVar i) (zVar i) := ⟨pe_var hN hv hd hcd, le_var⟩
theorem zint {i j pos} : ZE X W (.Constant (.int i) j pos) (tC (.int i)) (zC (.int i)) := ⟨pe_int, le_c fun _ _ _ => by simp [Rep]⟩
theorem zbl {b j pos} : ZE X W (.Constant (.bool b) j pos) (tC (.bl b)) (zC (.bl b)) := ⟨pe_bl, le_c fun _ _ _ => by simp [Rep]⟩
theorem znon {j pos} : ZE X W (.Constant .none j pos) (tC .non) (zC .non) := ⟨pe_non, le_c fun _ _ _ => by simp [Rep]⟩
theorem zstr {s j pos} : ZE X W (.Constant (.str s) j pos) (tC (.str s)) (zC (.str s)) := ⟨pe_str, le_c fun _ _ _ => by simp [Rep]⟩
/-- a module's constant; a class or a function as a value -/
theorem zglob {x : Str} {d : D} {v : V} {u : Value} {pos : Pos} (hg : Gl X x) (hm : X.mg x = some u) (r : RelV v u) (hr : ∀ H μ a, Rep X.K H μ a d v) (hd : (x == ("__debug__" : Str)) = false := by decide) : ZE X W (.Name x pos) (tC v) (zC d) := ⟨pe_glob hg hm r hd, le_c hr⟩
theorem zbltn {x : Str} {v : V} {u : Value} {pos : Pos} (hg : Gl X x) (hm : X.mg x = none) (hv : bootBuiltins x = some u) (r : RelV v u) (hn : x ≠ "__name__" := by decide) (hd : (x == ("__debug__" : Str)) = false := by decide) : ZE X W (.Name x pos) (tC v) (zC (.oth v)) :=
  ⟨pe_bltn hg hm hv r hn hd, le_c fun _ _ _ => by simp [Rep]⟩
end

/-! ### operators by values -/
abbrev F1 := D → Mu → ZQ → Prop
abbrev F2 := D → D → Mu → ZQ → Prop
abbrev FL := List D → Mu → ZQ → Prop
abbrev FM := D → List D → Mu → ZQ → Prop
def Post (K : PySem.W.Frag) (H : Hp) (μ : Mu) (x : Ax) (q : ZQ) (Q : VK) : Prop := ∀ d v H' μ', Grow H μ H' μ' x → ZH K H' μ' x → Rep K H' μ' x d v → q d μ' → Q v H'
def Lf1 (K : PySem.W.Frag) (r : V → Hp → VK → Prop) (f : F1) : Prop := ∀ x H μ d v q Q, ZH K H μ x → Rep K H μ x d v → f d μ q → Post K H μ x q Q → r v H Q
def Lf2 (K : PySem.W.Frag) (r : R2) (f : F2) : Prop := ∀ x H μ d e v u q Q, ZH K H μ x → Rep K H μ x d v → Rep K H μ x e u → f d e μ q → Post K H μ x q Q → r v u H Q
def LfL (K : PySem.W.Frag) (r : List V → Hp → VK → Prop) (f : FL) : Prop := ∀ x H μ ds vs q Q, ZH K H μ x → RepL K H μ x ds vs → f ds μ q → Post K H μ x q Q → r vs H Q
def LfM (K : PySem.W.Frag) (r : V → List V → Hp → VK → Prop) (f : FM) : Prop := ∀ x H μ d v ds vs q Q, ZH K H μ x → Rep K H μ x d v → RepL K H μ x ds vs → f d ds μ q → Post K H μ x q Q → r v vs H Q
def zOp (f : F2) (za zb : ZT) : ZT := fun ρ μ q e => za ρ μ (fun d μ1 => zb ρ μ1 (fun d2 μ2 => f d d2 μ2 q) e) e
def zUn (f : F1) (za : ZT) : ZT := fun ρ μ q e => za ρ μ (fun d μ1 => f d μ1 q) e
def zNil : ZA := fun _ μ q _ => q [] μ
def zCons (za : ZT) (zs : ZA) : ZA := fun ρ μ q e => za ρ μ (fun d μ1 => zs ρ μ1 (fun ds μ2 => q (d :: ds) μ2) e) e
def zCB (f : FL) (zs : ZA) : ZT := fun ρ μ q e => zs ρ μ (fun ds μ1 => f ds μ1 q) e
section
variable {K : PySem.W.Frag} {W : WX} {ta tb : TE} {za zb : ZT} {n : Nat} {tas : TA} {zas : ZA} {q : ZQ} {H H1 : Hp} {μ μ1 : Mu} {x : Ax} {Q : VK}
theorem Post.grow (p : Post K H μ x q Q) (g : Grow H μ H1 μ1 x) : Post K H1 μ1 x q Q := fun d v H' μ' g2 => p d v H' μ' (g.trans g2)
theorem Post.here (p : Post K H μ x q Q) (z : ZH K H μ x) {d : D} {v : V} (r : Rep K H μ x d v) (h : q d μ) : Q v H := p d v H μ Grow.refl z r h
theorem le_op {r : R2} {f : F2} (h : Lf2 K r f) (la : LE K W ta za) (lb : LE K W tb zb) : LE K W (tOp r ta tb) (zOp f za zb) := fun x σ H ρ μ q w Q I c hz k => by
  refine la x σ H ρ μ _ w _ I c hz fun d v H1 μ1 g1 z1 r1 h1 => ?_
  refine lb x σ H1 ρ μ1 _ w _ (I.grow g1 z1) (c.grow g1) h1 fun d2 v2 H2 μ2 g2 z2 r2 h2 => ?_
  exact h x H2 μ2 d d2 v v2 q Q z2 (r1.mono g2) r2 h2 fun d3 v3 H3 μ3 g3 z3 r3 h3 => k d3 v3 H3 μ3 (g1.trans (g2.trans g3)) z3 r3 h3
theorem le_un {r : V → Hp → VK → Prop} {f : F1} (h : Lf1 K r f) (la : LE K W ta za) : LE K W (tUn r ta) (zUn f za) := fun x σ H ρ μ q w Q I c hz k => by
  refine la x σ H ρ μ _ w _ I c hz fun d v H1 μ1 g1 z1 r1 h1 => ?_
  exact h x H1 μ1 d v q Q z1 r1 h1 fun d3 v3 H3 μ3 g3 z3 r3 h3 => k d3 v3 H3 μ3 (g1.trans g3) z3 r3 h3
theorem la_nil : LA K W 0 tNil zNil := fun x σ H ρ μ q w Q I c hz k => k [] [] H μ Grow.refl I.zh (by simp [RepL]) rfl hz
theorem la_cons (la : LE K W ta za) (lb : LA K W n tas zas) : LA K W (n + 1) (tCons ta tas) (zCons za zas) := fun x σ H ρ μ q w Q I c hz k => by
  refine la x σ H ρ μ _ w _ I c hz fun d v H1 μ1 g1 z1 r1 h1 => ?_
  refine lb x σ H1 ρ μ1 _ w _ (I.grow g1 z1) (c.grow g1) h1 fun ds vs H2 μ2 g2 z2 r2 l2 h2 => ?_
  exact k (d :: ds) (v :: vs) H2 μ2 (g1.trans g2) z2 (by simp only [RepL]; exact ⟨v, vs, rfl, r1.mono g2, r2⟩) (by rw [List.length_cons, l2]) h2
theorem le_cb {r : List V → Hp → VK → Prop} {f : FL} (h : LfL K r f) (la : LA K W n tas zas) : LE K W (tCB r tas) (zCB f zas) := fun x σ H ρ μ q w Q I c hz k => by
  refine la x σ H ρ μ _ w _ I c hz fun d v H1 μ1 g1 z1 r1 _ h1 => ?_
  exact h x H1 μ1 d v q Q z1 r1 h1 fun d3 v3 H3 μ3 g3 z3 r3 h3 => k d3 v3 H3 μ3 (g1.trans g3) z3 r3 h3
theorem Lf2.or1 {r r' : R2} {f : F2} (h : Lf2 K r f) : Lf2 K (fun x y H Q => r x y H Q ∨ r' x y H Q) f := fun x H μ d e v u q Q z r1 r2 h1 p => .inl (h x H μ d e v u q Q z r1 r2 h1 p)
end
section
variable {X : Cx} {W : WX} {a b : Expr} {ta tb : TE} {za zb : ZT} {pos : Pos} {es : List Expr} {n : Nat} {tas : TA} {zas : ZA}
theorem zop {op : Operator} {r : R2} {f : F2} (ho : OpR X (binaryOp op) r) (hl : Lf2 X.K r f) (ha : ZE X W a ta za) (hb : ZE X W b tb zb) : ZE X W (.BinOp a op b pos) (tOp r ta tb) (zOp f za zb) := ⟨pe_op ho ha.p hb.p, le_op hl ha.l hb.l⟩
theorem zun {op : UnaryOp} {r : V → Hp → VK → Prop} {f : F1} (ho : UnR X (unaryOp op) r) (hl : Lf1 X.K r f) (ha : ZE X W a ta za) : ZE X W (.UnaryOp op a pos) (tUn r ta) (zUn f za) := ⟨pe_un ho ha.p, le_un hl ha.l⟩
theorem zcmp {op : CmpOp} {r : R2} {f : F2} (ho : OpR X (compareOp op) r) (hl : Lf2 X.K r f) (ha : ZE X W a ta za) (hb : ZE X W b tb zb) (hm : behindInMarks op b = false := by rfl) : ZE X W (.Compare a [op] [b] pos) (tOp r ta tb) (zOp f za zb) := ⟨pe_cmpR ho ha.p hb.p hm, le_op hl ha.l hb.l⟩
theorem znil : ZAr X W 0 [] tNil zNil := ⟨pa_nil, la_nil⟩
theorem zcons {e : Expr} (ha : ZE X W e ta za) (hb : ZAr X W n es tas zas) (hs : starEach (e :: es) X.env = (false, eval e X.env) :: starEach es X.env := by rfl) : ZAr X W (n + 1) (e :: es) (tCons ta tas) (zCons za zas) := ⟨pa_cons ha.p hb.p hs, la_cons ha.l hb.l⟩
theorem zcallB {x : Str} {p : Pos} {e : Expr} {id : String} {r : List V → Hp → VK → Prop} {f : FL} (hc : CallR X (.builtin id) r) (hl : LfL X.K r f) (hm : X.mg x = none) (ha : ZAr X W n (e :: es) tas zas) (hg : Gl X x := by rfl) (hv : bootBuiltins x = some (.builtin id) := by decide +kernel) (hn : x ≠ "__name__" := by decide) (hdb : (x == ("__debug__" : Str)) = false := by decide)
    (he : starEach (e :: es) X.env = (false, eval e X.env) :: starEach es X.env := by rfl) (hpl : (backTo pos (starEach es X.env)).any (·.1) = false := by rfl) :
    ZE X W (.Call (.Name x p) (e :: es) [] pos) (tCB r tas) (zCB f zas) := ⟨pe_callB hc hg hm hv ha.p hn hdb he hpl, le_cb hl ha.l⟩
theorem zcallT {x : Str} {p : Pos} {e : Expr} {id : String} {r : List V → Hp → VK → Prop} {f : FL} (hc : CallR X (.type id) r) (hl : LfL X.K r f) (hm : X.mg x = none) (ha : ZAr X W n (e :: es) tas zas) (hg : Gl X x := by rfl) (hv : bootBuiltins x = some (.type id) := by decide +kernel) (hn : x ≠ "__name__" := by decide) (hdb : (x == ("__debug__" : Str)) = false := by decide)
    (he : starEach (e :: es) X.env = (false, eval e X.env) :: starEach es X.env := by rfl) (hpl : (backTo pos (starEach es X.env)).any (·.1) = false := by rfl) :
    ZE X W (.Call (.Name x p) (e :: es) [] pos) (tCB r tas) (zCB f zas) := ⟨pe_callTy hc hg hm hv ha.p hn hdb he hpl, le_cb hl ha.l⟩
end

/-! ### displays -/
def zTup (zs : ZA) : ZT := fun ρ μ q e => zs ρ μ (fun ds μ1 => q (.tup ds) μ1) e
def zLst (zs : ZA) : ZT := fun ρ μ q e => zs ρ μ (fun ds μ1 => q (.lst ds) μ1) e
/-- a list that will change -/
def zLstO (zs : ZA) : ZT := fun ρ μ q e => zs ρ μ (fun ds μ1 => ∀ p, μ1 p = none → q (.ref p) (updM μ1 p (.lst ds))) e
def zDctO : ZT := fun ρ μ q _ => ∀ p, μ p = none → q (.ref p) (updM μ p (.dct []))
section
variable {K : PySem.W.Frag} {W : WX} {tas : TA} {zas : ZA} {H : Hp} {μ : Mu} {x : Ax} {ds : List D} {vs : List V} {q : ZQ} {Q : VK}
theorem new_tup (z : ZH K H μ x) (r : RepL K H μ x ds vs) (p : Post K H μ x q Q) (h : q (.tup ds) μ) : ∀ a, H a = none → Q (.ref a) (upd H a (.tup vs)) := fun a ha =>
  p (.tup ds) (.ref a) _ μ (z.gnew ha) (z.new ha) (by simp only [Rep]; exact ⟨a, vs, rfl, .inl (Fz.new z ha rfl), RepL.mono (z.gnew ha) _ _ r⟩) h
theorem new_lst (z : ZH K H μ x) (r : RepL K H μ x ds vs) (p : Post K H μ x q Q) (h : q (.lst ds) μ) : ∀ a, H a = none → Q (.ref a) (upd H a (.lst vs)) := fun a ha =>
  p (.lst ds) (.ref a) _ μ (z.gnew ha) (z.new ha) (by simp only [Rep]; exact ⟨a, vs, rfl, Fz.new z ha rfl, RepL.mono (z.gnew ha) _ _ r⟩) h
theorem new_lstO (z : ZH K H μ x) (r : RepL K H μ x ds vs) (p : Post K H μ x q Q) (h : ∀ a, μ a = none → q (.ref a) (updM μ a (.lst ds))) : ∀ a, H a = none → Q (.ref a) (upd H a (.lst vs)) := fun a ha =>
  p (.ref a) (.ref a) _ _ (z.gown ha) (z.onew ha (by simp only [Own]; exact ⟨vs, upd_same, RepL.mono (z.gown ha) _ _ r⟩)) (by simp [Rep]) (h a (z.fresh ha).1)
theorem new_dct {kvs : List (Key × D)} {us : List (Key × V)} (z : ZH K H μ x) (r : RepK K H μ x kvs us) (p : Post K H μ x q Q) (h : q (.dct kvs) μ) : ∀ a, H a = none → Q (.ref a) (upd H a (.dK us)) := fun a ha =>
  p (.dct kvs) (.ref a) _ μ (z.gnew ha) (z.new ha) (by simp only [Rep]; exact ⟨a, us, rfl, Fz.new z ha rfl, RepK.mono (z.gnew ha) _ _ r⟩) h
theorem new_dctO {kvs : List (Key × D)} {us : List (Key × V)} (z : ZH K H μ x) (r : RepK K H μ x kvs us) (p : Post K H μ x q Q) (h : ∀ a, μ a = none → q (.ref a) (updM μ a (.dct kvs))) : ∀ a, H a = none → Q (.ref a) (upd H a (.dK us)) := fun a ha =>
  p (.ref a) (.ref a) _ _ (z.gown ha) (z.onew ha (by simp only [Own]; exact ⟨us, upd_same, RepK.mono (z.gown ha) _ _ r⟩)) (by simp [Rep]) (h a (z.fresh ha).1)
theorem le_tup {n : Nat} (la : LA K W n tas zas) (h : n ≤ 1000) : LE K W (tTup tas) (zTup zas) := fun x σ H ρ μ q w Q I c hz k => by
  refine la x σ H ρ μ _ w _ I c hz fun ds vs H1 μ1 g1 z1 r1 l1 h1 => ⟨?_, new_tup z1 r1 (fun d v H' μ' g => k d v H' μ' (g1.trans g)) h1⟩
  rw [l1]; exact Nat.le_of_lt (small1000 h)
theorem le_lst {n : Nat} (la : LA K W n tas zas) (h : n ≤ 1000) : LE K W (tLst tas) (zLst zas) := fun x σ H ρ μ q w Q I c hz k => by
  refine la x σ H ρ μ _ w _ I c hz fun ds vs H1 μ1 g1 z1 r1 l1 h1 => ⟨?_, new_lst z1 r1 (fun d v H' μ' g => k d v H' μ' (g1.trans g)) h1⟩
  rw [l1]; exact Nat.le_of_lt (small1000 h)
theorem le_lstO {n : Nat} (la : LA K W n tas zas) (h : n ≤ 1000) : LE K W (tLst tas) (zLstO zas) := fun x σ H ρ μ q w Q I c hz k => by
  refine la x σ H ρ μ _ w _ I c hz fun ds vs H1 μ1 g1 z1 r1 l1 h1 => ⟨?_, new_lstO z1 r1 (fun d v H' μ' g => k d v H' μ' (g1.trans g)) h1⟩
  rw [l1]; exact Nat.le_of_lt (small1000 h)
theorem le_dctO : LE K W tDNewK zDctO := fun x σ H ρ μ q w Q I c hz k => new_dctO (kvs := []) (us := []) I.zh (by simp [RepK]) k hz
end
section
variable {X : Cx} {W : WX} {pos : Pos} {es : List Expr} {n : Nat} {tas : TA} {zas : ZA}
theorem ztup {k} (h : ZAr X W n es tas zas) (hn : n ≤ 1000 := by decide) : ZE X W (.Tuple es k pos) (tTup tas) (zTup zas) := ⟨pe_tup h.p, le_tup h.l hn⟩
theorem zlst (h : ZAr X W n es tas zas) (hn : n ≤ 1000 := by decide) : ZE X W (.List es pos) (tLst tas) (zLst zas) := ⟨pe_lst h.p, le_lst h.l hn⟩
theorem zlstO (h : ZAr X W n es tas zas) (hn : n ≤ 1000 := by decide) : ZE X W (.List es pos) (tLst tas) (zLstO zas) := ⟨pe_lst h.p, le_lstO h.l hn⟩
theorem zdctO : ZE X W (.Dict [] [] pos) tDNewK zDctO := ⟨pe_dnewK, le_dctO⟩
end
end Z

set_option maxRecDepth 100000
set_option maxHeartbeats 4000000
namespace Z
open PySem L2

section
variable {K : PySem.W.Frag} {H : Hp} {μ : Mu} {x : Ax} {v : V} {q : ZQ} {Q : VK} {i : Int} {s : Str} {b : Bool}
theorem rep_int : Rep K H μ x (.int i) (.int i) := by simp [Rep]
theorem rep_str : Rep K H μ x (.str s) (.str s) := by simp [Rep]
theorem rep_bl : Rep K H μ x (.bl b) (.bl b) := by simp [Rep]
theorem rep_non : Rep K H μ x .non .non := by simp [Rep]
theorem rep_ref {a : Addr} : Rep K H μ x (.ref a) (.ref a) := by simp [Rep]
theorem Rep.int (h : Rep K H μ x (.int i) v) : v = .int i := by simpa [Rep] using h
theorem Rep.str (h : Rep K H μ x (.str s) v) : v = .str s := by simpa [Rep] using h
theorem Rep.bl (h : Rep K H μ x (.bl b) v) : v = .bl b := by simpa [Rep] using h
theorem Rep.non (h : Rep K H μ x .non v) : v = .non := by simpa [Rep] using h
theorem Rep.ref {a : Addr} (h : Rep K H μ x (.ref a) v) : v = .ref a := by simpa [Rep] using h
theorem Rep.oth {w : V} (h : Rep K H μ x (.oth w) v) : v = w := by simpa [Rep] using h
theorem Rep.tup {ds : List D} (h : Rep K H μ x (.tup ds) v) : ∃ a vs, v = .ref a ∧ SqT K H a vs ∧ RepL K H μ x ds vs := by
  simp only [Rep] at h
  obtain ⟨a, vs, e, q, r⟩ := h
  exact ⟨a, vs, e, q.imp Fz.rd id, r⟩
/-- a list that is no written one -/
def rlstOf (d : D) (μ : Mu) : Option (List D) := match d with
  | .lst ds => some ds
  | .ref a => match μ a with
    | some (.lst ds) => some ds
    | _ => none
  | _ => none
theorem rlst_of {d : D} {ds : List D} (z : ZH K H μ x) (r : Rep K H μ x d v) (h : rlstOf d μ = some ds) : ∃ a vs, v = .ref a ∧ Rd H a (.lst vs) ∧ RepL K H μ x ds vs := by
  cases d with
  | lst es =>
    have e : es = ds := Option.some.inj h
    subst e
    simp only [Rep] at r
    obtain ⟨a, vs, e, q, r⟩ := r
    exact ⟨a, vs, e, q.rd, r⟩
  | ref a =>
    simp only [Rep] at r
    simp only [rlstOf] at h
    split at h
    · rename_i es e
      have e' : es = ds := Option.some.inj h
      subst e'
      have w := z.own a _ e
      simp only [Own] at w
      obtain ⟨vs, e1, r1⟩ := w
      exact ⟨a, vs, r, .inl e1, r1⟩
    · cases h
  | _ => cases h
end

/-! ### + - * // % ** -/
section
variable {X : Cx}
theorem lstR {pins : List (Addr × Obj)} {σ : St} {H : Hp} {s : Shared} {l : Addr} {xs : List V} (I : Inv X pins σ H s) (hH : Rd H l (.lst xs)) : xs.length ≤ sizeLine ∧ ∃ (its : List Value) (n : Nat), Vals xs its ∧ xs.length = its.length ∧ s.heap.get? l = some { cls := .type "list", data := .seq its.toArray n } := by
  obtain ⟨z, its, n, r, e⟩ := hH.ok I.hok
  exact ⟨z, its, n, r, r.length, e⟩
def rCatQ : R2 := fun x y H Q => ∃ l b xs zs, x = .ref l ∧ y = .ref b ∧ Rd H l (.lst xs) ∧ Rd H b (.lst zs) ∧ xs.length + zs.length ≤ sizeLine ∧ ∀ p, H p = none → Q (.ref p) (upd H p (.lst (xs ++ zs)))
theorem op_catQ : OpR X (binaryOp .Add) rCatQ := by
  intro pins s σ H x y v u Q I rx ry h
  obtain ⟨l, b, xs, zs, rfl, rfl, hH, hB, hz, q⟩ := h
  cases rx
  cases ry
  obtain ⟨z, its, n, r, hl, e⟩ := lstR I hH
  obtain ⟨z2, its2, n2, r2, hl2, e2⟩ := lstR I hB
  refine PySem.P.add_list e e2 ?_ (by rw [List.size_toArray, List.size_toArray]; omega)
  have ea : its.toArray ++ its2.toArray = (its ++ its2).toArray := by simp
  rw [ea]
  exact ⟨.ref _, _, I.lnew (t' := s.toks) (r.append r2) (by rw [List.length_append]; omega), rfl, q _ I.fresh⟩
def rAddAll (K : PySem.W.Frag) : R2 := fun x y H Q => (∃ i j, x = .int i ∧ y = .int j ∧ Q (.int (i + j)) H) ∨ (∃ i j, x = .str i ∧ y = .str j ∧ i.length + j.length ≤ sizeLine ∧ Q (.str (i ++ j)) H) ∨ rCatQ x y H Q ∨ rCatA K x y H Q
theorem op_addAll : OpR X (binaryOp .Add) (rAddAll X.K) := op_add.or (op_add_str.or (op_catQ.or op_catA))
end
def zAdd : F2 := fun a b μ q => match a, b with
  | .int i, .int j => q (.int (i + j)) μ
  | .str i, .str j => i.length + j.length ≤ sizeLine ∧ q (.str (i ++ j)) μ
  | .tup xs, .tup ys => xs.length + ys.length ≤ sizeLine ∧ q (.tup (xs ++ ys)) μ
  | a, b => match rlstOf a μ, rlstOf b μ with
    | some xs, some ys => xs.length + ys.length ≤ sizeLine ∧ q (.lst (xs ++ ys)) μ
    | _, _ => False
section
variable {K : PySem.W.Frag}
theorem lf_add : Lf2 K (rAddAll K) zAdd := fun x H μ d e v u q Q z r1 r2 h p => by
  unfold zAdd at h
  split at h
  · exact .inl ⟨_, _, r1.int, r2.int, p.here z rep_int h⟩
  · exact .inr (.inl ⟨_, _, r1.str, r2.str, h.1, p.here z rep_str h.2⟩)
  · rename_i xs ys
    obtain ⟨a, vs, rfl, q1, l1⟩ := r1.tup
    obtain ⟨b, us, rfl, q2, l2⟩ := r2.tup
    obtain ⟨hz, hq⟩ := h
    refine .inr (.inr (.inr ⟨a, b, vs, us, rfl, rfl, q1, q2, by rw [← l1.length, ← l2.length]; exact hz, ?_, ?_, ?_⟩))
    · intro e
      subst e
      have ex : xs = [] := List.eq_nil_of_length_eq_zero l1.length
      subst ex
      rw [List.nil_append] at hq
      exact p.here z r2 hq
    · intro _ e
      subst e
      have ey : ys = [] := List.eq_nil_of_length_eq_zero l2.length
      subst ey
      rw [List.append_nil] at hq
      exact p.here z r1 hq
    · intro _ _
      exact new_tup z (l1.append l2) p hq
  · split at h
    · rename_i xs ys e1 e2
      obtain ⟨a, vs, rfl, q1, l1⟩ := rlst_of z r1 e1
      obtain ⟨b, us, rfl, q2, l2⟩ := rlst_of z r2 e2
      exact .inr (.inr (.inl ⟨a, b, vs, us, rfl, rfl, q1, q2, by rw [← l1.length, ← l2.length]; exact h.1, new_lst z (l1.append l2) p h.2⟩))
    · exact h.elim
def zI2 (C : Int → Int → Prop) (g : Int → Int → Int) : F2 := fun a b μ q => match a, b with
  | .int i, .int j => C i j ∧ q (.int (g i j)) μ
  | _, _ => False
theorem lf_I2 {C : Int → Int → Prop} {g : Int → Int → Int} : Lf2 K (rI C fun i j => .int (g i j)) (zI2 C g) := fun x H μ d e v u q Q z r1 r2 h p => by
  unfold zI2 at h
  split at h
  · exact ⟨_, _, r1.int, r2.int, h.1, p.here z rep_int h.2⟩
  · exact h.elim
def zSub : F2 := fun a b μ q => match a, b with
  | .int i, .int j => q (.int (i - j)) μ
  | _, _ => False
theorem lf_sub : Lf2 K (rI0 fun i j => .int (i - j)) zSub := fun x H μ d e v u q Q z r1 r2 h p => by
  unfold zSub at h
  split at h
  · exact ⟨_, _, r1.int, r2.int, p.here z rep_int h⟩
  · exact h.elim
abbrev zMulI : F2 := zI2 CMulW fun i j => i * j
abbrev zDiv : F2 := zI2 CDivW fun i j => i / j
abbrev zMod : F2 := zI2 (fun _ j => 0 < j) fun i j => i % j
abbrev zPow : F2 := zI2 CPow fun i j => i ^ j.toNat
def zNeg : F1 := fun a μ q => match a with
  | .int i => q (.int (-i)) μ
  | _ => False
theorem lf_neg : Lf1 K (rU fun i => .int (-i)) zNeg := fun x H μ d v q Q z r1 h p => by
  unfold zNeg at h
  split at h
  · exact ⟨_, r1.int, p.here z rep_int h⟩
  · exact h.elim

/-! ### comparisons of numbers -/
def zCmpI (g : Int → Int → Bool) : F2 := fun a b μ q => match a, b with
  | .int i, .int j => q (.bl (g i j)) μ
  | _, _ => False
theorem lf_cmpI {g : Int → Int → Bool} : Lf2 K (rI0 fun i j => .bl (g i j)) (zCmpI g) := fun x H μ d e v u q Q z r1 r2 h p => by
  unfold zCmpI at h
  split at h
  · exact ⟨_, _, r1.int, r2.int, p.here z rep_bl h⟩
  · exact h.elim
abbrev zLt : F2 := zCmpI fun i j => decide (i < j)
abbrev zLe : F2 := zCmpI fun i j => decide (i ≤ j)
abbrev zGt : F2 := zCmpI fun i j => decide (j < i)
abbrev zGe : F2 := zCmpI fun i j => decide (j ≤ i)
end

/-! ### == -/
mutual
def pdOf : D → Option PyData
  | .non => some .none
  | .bl b => some (.bool b)
  | .int i => some (.int i)
  | .str s => some (.str s)
  | .lst ds => (pdsOf ds).map .list
  | .klst ds => (pdsOf ds).map .list
  | .tup ds => (pdsOf ds).map .tuple
  | _ => none
def pdsOf : List D → Option (List PyData)
  | [] => some []
  | d :: ds => match pdOf d, pdsOf ds with
    | some p, some ps => some (p :: ps)
    | _, _ => none
end
section
variable {K : PySem.W.Frag} {H : Hp} {μ : Mu} {x : Ax}
mutual
theorem dp_of : ∀ (d : D) (v : V) (p : PyData), Rep K H μ x d v → pdOf d = some p → Dp K H v p
  | .non, v, p, r, h => by simp only [pdOf, Option.some.injEq] at h; subst h; rw [r.non]; exact .non
  | .bl b, v, p, r, h => by simp only [pdOf, Option.some.injEq] at h; subst h; rw [r.bl]; exact .bl b
  | .int i, v, p, r, h => by simp only [pdOf, Option.some.injEq] at h; subst h; rw [r.int]; exact .int i
  | .str i, v, p, r, h => by simp only [pdOf, Option.some.injEq] at h; subst h; rw [r.str]; exact .str i
  | .lst ds, v, p, r, h => by
    simp only [pdOf, Option.map_eq_some_iff] at h
    obtain ⟨ps, e, rfl⟩ := h
    simp only [Rep] at r
    obtain ⟨a, vs, rfl, q, l⟩ := r
    exact .lst (.inl q.rd) (dps_of ds vs ps l e)
  | .klst ds, v, p, r, h => by
    simp only [pdOf, Option.map_eq_some_iff] at h
    obtain ⟨ps, e, rfl⟩ := h
    simp only [Rep] at r
    obtain ⟨a, vs, rfl, q, l⟩ := r
    exact .lst (q.imp Fz.rd id) (dps_of ds vs ps l e)
  | .tup ds, v, p, r, h => by
    simp only [pdOf, Option.map_eq_some_iff] at h
    obtain ⟨ps, e, rfl⟩ := h
    simp only [Rep] at r
    obtain ⟨a, vs, rfl, q, l⟩ := r
    exact .tup (q.imp Fz.rd id) (dps_of ds vs ps l e)
  | .dct _, v, p, r, h => by simp only [pdOf] at h; cases h
  | .ins _ _, v, p, r, h => by simp only [pdOf] at h; cases h
  | .ref _, v, p, r, h => by simp only [pdOf] at h; cases h
  | .oth _, v, p, r, h => by simp only [pdOf] at h; cases h
theorem dps_of : ∀ (ds : List D) (vs : List V) (ps : List PyData), RepL K H μ x ds vs → pdsOf ds = some ps → DpAll K H vs ps
  | [], vs, ps, r, h => by simp only [pdsOf, Option.some.injEq] at h; subst h; simp only [RepL] at r; subst r; exact .nil
  | d :: ds, vs, ps, r, h => by
    simp only [RepL] at r
    obtain ⟨v, rs, rfl, r1, r2⟩ := r
    simp only [pdsOf] at h
    split at h
    · rename_i p ps' e1 e2
      cases h
      exact .cons (dp_of d v p r1 e1) (dps_of ds rs ps' r2 e2)
    · cases h
end
end
/-- a list that may change is read as it stands -/
def pdM (d : D) (μ : Mu) : Option PyData := match d with
  | .ref a => match μ a with
    | some (.lst ds) => (pdsOf ds).map .list
    | _ => none
  | d => pdOf d
theorem dpm_of {K : PySem.W.Frag} {H : Hp} {μ : Mu} {x : Ax} {d : D} {v : V} {p : PyData} (z : ZH K H μ x) (r : Rep K H μ x d v) (h : pdM d μ = some p) : Dp K H v p := by
  unfold pdM at h
  split at h
  · rename_i a
    split at h
    · rename_i ds e
      simp only [Option.map_eq_some_iff] at h
      obtain ⟨ps, e2, rfl⟩ := h
      have w := z.own a _ e
      simp only [Own] at w
      obtain ⟨vs, e1, l⟩ := w
      rw [r.ref]
      exact .lst (SqL.of e1) (dps_of ds vs ps l e2)
    · cases h
  · exact dp_of d v p r h
/-- == of values: of two numbers, two texts, None | of data at any depth -/
def pyEq (a b : D) (μ : Mu) : Option Bool := match a, b with
  | .int i, .int j => some (decide (i = j))
  | .str i, .str j => some (decide (i = j))
  | .bl i, .bl j => some (decide (i = j))
  | .non, .non => some true
  | a, b => match pdM a μ, pdM b μ with
    | some p, some p' => if SeqAt.shaped p = true ∧ SeqAt.shaped p' = true then some (PyData.eqv p p') else none
    | _, _ => none
def zEq : F2 := fun a b μ q => match pyEq a b μ with
  | some k => q (.bl k) μ
  | none => False
def zNe : F2 := fun a b μ q => match pyEq a b μ with
  | some k => q (.bl (!k)) μ
  | none => False
section
variable {K : PySem.W.Frag} {X : Cx}
def rEqAll (K : PySem.W.Frag) : R2 := fun x y H Q => rEq x y H Q ∨ rEqD K x y H Q
def rNeAll (K : PySem.W.Frag) : R2 := fun x y H Q => rNe x y H Q ∨ rNeD K x y H Q
theorem op_eqAll (hu : X.A.units + 64 < cLine) : OpR X (compareOp .Eq) (rEqAll X.K) := op_eq.or (op_eqD hu)
theorem op_neAll (hu : X.A.units + 64 < cLine) : OpR X (compareOp .NotEq) (rNeAll X.K) := op_ne.or (op_neD hu)
theorem dec_i {i j : Int} : decide (V.int i = V.int j) = decide (i = j) := by
  by_cases h : i = j
  · subst h; simp
  · rw [decide_eq_false h, decide_eq_false (fun q => h (V.int.inj q))]
theorem dec_s {i j : Str} : decide (V.str i = V.str j) = decide (i = j) := by
  by_cases h : i = j
  · subst h; simp
  · rw [decide_eq_false h, decide_eq_false (fun q => h (V.str.inj q))]
theorem dec_b {i j : Bool} : decide (V.bl i = V.bl j) = decide (i = j) := by
  by_cases h : i = j
  · subst h; simp
  · rw [decide_eq_false h, decide_eq_false (fun q => h (V.bl.inj q))]
theorem pyEq_ok {H : Hp} {μ : Mu} {x : Ax} {a b : D} {v u : V} {k : Bool} (z : ZH K H μ x) (r1 : Rep K H μ x a v) (r2 : Rep K H μ x b u) (h : pyEq a b μ = some k) :
    (scal v u = true ∧ decide (v = u) = k) ∨ ∃ d e, Dp K H v d ∧ Dp K H u e ∧ SeqAt.shaped d = true ∧ SeqAt.shaped e = true ∧ PyData.eqv d e = k := by
  unfold pyEq at h
  split at h
  · cases h; rw [r1.int, r2.int]; exact .inl ⟨rfl, dec_i⟩
  · cases h; rw [r1.str, r2.str]; exact .inl ⟨rfl, dec_s⟩
  · cases h; rw [r1.bl, r2.bl]; exact .inl ⟨rfl, dec_b⟩
  · cases h; rw [r1.non, r2.non]; exact .inl ⟨rfl, by simp⟩
  · split at h
    · rename_i p p' e1 e2
      split at h
      · rename_i hs
        cases h
        exact .inr ⟨p, p', dpm_of z r1 e1, dpm_of z r2 e2, hs.1, hs.2, rfl⟩
      · cases h
    · cases h
theorem lf_eq : Lf2 K (rEqAll K) zEq := fun x H μ d e v u q Q z r1 r2 h p => by
  unfold zEq at h
  split at h
  · rename_i k e1
    rcases pyEq_ok z r1 r2 e1 with ⟨h1, h2⟩ | ⟨d, e, h1, h2, h3, h4, h5⟩
    · exact .inl ⟨h1, by rw [h2]; exact p.here z rep_bl h⟩
    · exact .inr ⟨d, e, h1, h2, h3, h4, by rw [h5]; exact p.here z rep_bl h⟩
  · exact h.elim
theorem lf_ne : Lf2 K (rNeAll K) zNe := fun x H μ d e v u q Q z r1 r2 h p => by
  unfold zNe at h
  split at h
  · rename_i k e1
    rcases pyEq_ok z r1 r2 e1 with ⟨h1, h2⟩ | ⟨d, e, h1, h2, h3, h4, h5⟩
    · exact .inl ⟨h1, by rw [h2]; exact p.here z rep_bl h⟩
    · exact .inr ⟨d, e, h1, h2, h3, h4, by rw [h5]; exact p.here z rep_bl h⟩
  · exact h.elim
end
end Z

set_option maxRecDepth 100000
set_option maxHeartbeats 4000000
namespace Z
open PySem L2

/-! ### in, not in -/
def flatD : D → Bool
  | .non => true
  | .bl _ => true
  | .int _ => true
  | .str _ => true
  | _ => false
/-- == of flat things -/
def eqF : D → D → Bool
  | .non, .non => true
  | .bl a, .bl b => a == b
  | .bl a, .int b => (if a then 1 else 0) == b
  | .int a, .bl b => a == (if b then 1 else 0)
  | .int a, .int b => a == b
  | .str a, .str b => a == b
  | _, _ => false
def inF (x : D) (ys : List D) : Bool := ys.any fun y => eqF y x
section
variable {K : PySem.W.Frag} {H : Hp} {μ : Mu} {x : Ax}
theorem flat_of {d : D} {v : V} (r : Rep K H μ x d v) (f : flatD d = true) : flatV v = true := by
  cases d <;> simp only [flatD] at f
  all_goals first | (exact absurd f Bool.false_ne_true) | (simp only [Rep] at r; subst r; rfl)
theorem eqF_of {d e : D} {v u : V} (r : Rep K H μ x d v) (s : Rep K H μ x e u) (f : flatD d = true) (g : flatD e = true) : eqV v u = eqF d e := by
  cases d <;> simp only [flatD] at f <;> cases e <;> simp only [flatD] at g
  all_goals first | (exact absurd f Bool.false_ne_true) | (exact absurd g Bool.false_ne_true) | (simp only [Rep] at r s; subst r; subst s; rfl)
theorem flats_of : ∀ {ds : List D} {vs : List V}, RepL K H μ x ds vs → ds.all flatD = true → vs.all flatV = true
  | [], vs, r, f => by simp only [RepL] at r; subst r; rfl
  | d :: ds, vs, r, f => by
    simp only [RepL] at r
    obtain ⟨v, rs, rfl, r1, r2⟩ := r
    rw [List.all_cons, Bool.and_eq_true] at f
    rw [List.all_cons, flat_of r1 f.1, flats_of r2 f.2]; rfl
theorem inF_of {d : D} {v : V} (r : Rep K H μ x d v) (f : flatD d = true) : ∀ {ds : List D} {vs : List V}, RepL K H μ x ds vs → ds.all flatD = true → inV v vs = inF d ds
  | [], vs, s, g => by simp only [RepL] at s; subst s; rfl
  | e :: ds, vs, s, g => by
    simp only [RepL] at s
    obtain ⟨u, us, rfl, r1, r2⟩ := s
    rw [List.all_cons, Bool.and_eq_true] at g
    have ih := inF_of r f r2 g.2
    unfold inV inF at ih ⊢
    rw [List.any_cons, List.any_cons, ih, eqF_of r1 r g.1 f]
end
/-- a key -/
def keyOf : D → Option Key
  | .int i => some (.inl i)
  | .str s => some (.inr s)
  | _ => none
def lookK (k : Key) : List (Key × D) → Option D
  | [] => none
  | (j, d) :: r => if j = k then some d else lookK k r
section
variable {K : PySem.W.Frag} {H : Hp} {μ : Mu} {x : Ax}
theorem key_of {d : D} {v : V} {k : Key} (r : Rep K H μ x d v) (h : keyOf d = some k) : v = kV k := by
  cases d <;> simp only [keyOf] at h
  all_goals first | (cases h; simp only [Rep] at r; subst r; rfl) | (cases h)
theorem look_of {k : Key} : ∀ {kvs : List (Key × D)} {us : List (Key × V)}, RepK K H μ x kvs us → (∀ d, lookK k kvs = some d → ∃ v, valV us k = some v ∧ Rep K H μ x d v) ∧ (lookK k kvs = none → valV us k = none)
  | [], us, r => by simp only [RepK] at r; subst r; exact ⟨fun d h => by simp [lookK] at h, fun _ => rfl⟩
  | (j, e) :: kvs, us, r => by
    simp only [RepK] at r
    obtain ⟨v, rs, rfl, r1, r2⟩ := r
    have ih := look_of (k := k) r2
    by_cases hk : j = k
    · subst hk
      refine ⟨fun d h => ?_, fun h => ?_⟩
      · have h' : some e = some d := by rw [← h]; unfold lookK; rw [if_pos rfl]
        cases h'
        exact ⟨v, by simp [valV], r1⟩
      · unfold lookK at h
        rw [if_pos rfl] at h
        cases h
    · have e1 : valV ((j, v) :: rs) k = valV rs k := by
        unfold valV
        rw [List.find?_cons_of_neg (by simpa using hk)]
      rw [e1]
      simpa only [lookK, if_neg hk] using ih
end
def strIn (i j : Str) : Bool := match i.cps.toList with
  | [c] => decide (c ∈ j.cps.toList)
  | _ => !(Builtin.Str.occurrences j i 0 j.length 1).isEmpty
def zIn : F2 := fun a b μ q => match b with
  | .str j => match a with
    | .str i => q (.bl (strIn i j)) μ
    | _ => False
  | b => match seqOf b μ with
    | some ds => flatD a = true ∧ ds.all flatD = true ∧ q (.bl (inF a ds)) μ
    | none => match dctOf b μ, keyOf a with
      | some kvs, some k => q (.bl (lookK k kvs).isSome) μ
      | _, _ => False
def zNotIn : F2 := fun a b μ q => zIn a b μ fun d μ' => match d with
  | .bl k => q (.bl (!k)) μ'
  | _ => False
section
variable {X : Cx}
def rInDct (neg : Bool) : R2 := fun x y H Q => ∃ a o, y = .ref a ∧ DGet H a x o ∧ Q (.bl (if neg then !o.isSome else o.isSome)) H
theorem op_inDct (hu : X.A.units + 1 < cLine) : OpR X (compareOp .In) (rInDct false) := by
  intro pins s σ H x y v u Q I rx ry h
  obtain ⟨a, o, rfl, g, q⟩ := h
  obtain rfl : u = Value.ref a := ry
  exact d_in hu I g rx fun s3 I3 => ⟨.bl o.isSome, H, I3, rfl, q⟩
theorem op_notinDct (hu : X.A.units + 1 < cLine) : OpR X (compareOp .NotIn) (rInDct true) := by
  intro pins s σ H x y v u Q I rx ry h
  obtain ⟨a, o, rfl, g, q⟩ := h
  obtain rfl : u = Value.ref a := ry
  exact d_notIn hu I g rx fun s3 I3 => ⟨.bl (!o.isSome), H, I3, rfl, q⟩
def rStrIn (neg : Bool) : R2 := fun x y H Q => ∃ i j, x = .str i ∧ y = .str j ∧ Q (.bl (if neg then !strIn i j else strIn i j)) H
theorem str1 {i : Str} {c : Nat} (h : i.cps.toList = [c]) : i = ⟨#[c]⟩ := by
  cases i with
  | mk cps =>
    have e : cps = #[c] := by
      apply Array.ext'
      simpa using h
    rw [e]
theorem op_strIn : OpR X (compareOp .In) (rStrIn false) := by
  intro pins s σ H x y v u Q I rx ry h
  obtain ⟨i, j, rfl, rfl, q⟩ := h
  have q' : Q (.bl (strIn i j)) H := q
  unfold strIn at q'
  split at q'
  · rename_i c e
    have e1 := str1 e
    subst e1
    exact op_in_sign pins s σ H _ _ v u Q I rx ry ⟨c, j, rfl, rfl, q'⟩
  · exact op_in_str pins s σ H _ _ v u Q I rx ry ⟨i, j, rfl, rfl, q'⟩
theorem op_strNotIn : OpR X (compareOp .NotIn) (rStrIn true) := by
  intro pins s σ H x y v u Q I rx ry h
  obtain ⟨i, j, rfl, rfl, q⟩ := h
  have q' : Q (.bl (!strIn i j)) H := q
  unfold strIn at q'
  split at q'
  · rename_i c e
    have e1 := str1 e
    subst e1
    exact op_notIn_sign pins s σ H _ _ v u Q I rx ry ⟨c, j, rfl, rfl, q'⟩
  · exact op_notin_str pins s σ H _ _ v u Q I rx ry ⟨i, j, rfl, rfl, q'⟩
def rInAll (K : PySem.W.Frag) (neg : Bool) : R2 := fun x y H Q => rStrIn neg x y H Q ∨ rIn K neg x y H Q ∨ rInDct neg x y H Q
theorem op_inAll (hu : X.A.units + 1 < cLine) : OpR X (compareOp .In) (rInAll X.K false) := op_strIn.or (op_in_seq.or (op_inDct hu))
theorem op_notInAll (hu : X.A.units + 1 < cLine) : OpR X (compareOp .NotIn) (rInAll X.K true) := op_strNotIn.or (op_notIn_seq.or (op_notinDct hu))
end
section
variable {K : PySem.W.Frag}
theorem in_core {x : Ax} {H : Hp} {μ : Mu} {d e : D} {v u : V} {q : ZQ} {Q : VK} {neg : Bool} (z : ZH K H μ x) (r1 : Rep K H μ x d v) (r2 : Rep K H μ x e u) (h : zIn d e μ q) (k : ∀ b, q (.bl b) μ → Q (.bl (if neg then !b else b)) H) : rInAll K neg v u H Q := by
  unfold zIn at h
  split at h
  · rename_i j
    split at h
    · exact .inl ⟨_, _, r1.str, r2.str, k _ h⟩
    · exact h.elim
  · split at h
    · rename_i ds e1
      obtain ⟨h1, h2, h3⟩ := h
      obtain ⟨a, vs, rfl, q1, l⟩ := seq_of z r2 e1
      refine .inr (.inl ⟨a, vs, rfl, q1, flat_of r1 h1, flats_of l h2, ?_⟩)
      rw [inF_of r1 h1 l h2]
      exact k _ h3
    · split at h
      · rename_i kvs kk e1 e2
        obtain ⟨a, us, rfl, q1, l⟩ := dct_of z r2 e1
        have lo := look_of (k := kk) l
        rw [key_of r1 e2]
        refine .inr (.inr ⟨a, valV us kk, rfl, .inl ⟨us, kk, q1, rfl, rfl⟩, ?_⟩)
        have e3 : (valV us kk).isSome = (lookK kk kvs).isSome := by
          cases e4 : lookK kk kvs with
          | none => rw [lo.2 e4]; rfl
          | some d' =>
            obtain ⟨v', e5, _⟩ := lo.1 d' e4
            rw [e5]; rfl
        rw [e3]
        exact k _ h
      · exact h.elim
theorem lf_in : Lf2 K (rInAll K false) zIn := fun x H μ d e v u q Q z r1 r2 h p => in_core z r1 r2 h fun b hb => p.here z rep_bl hb
theorem lf_notIn : Lf2 K (rInAll K true) zNotIn := fun x H μ d e v u q Q z r1 r2 h p => in_core z r1 r2 h fun b hb => p.here z rep_bl hb
end

/-! ### is -/
def zIsN : F2 := fun a b μ q => match b with
  | .non => match a with
    | .non => q (.bl true) μ
    | .ref _ => q (.bl false) μ
    | .oth _ => False
    | _ => q (.bl false) μ
  | .bl k => match a with
    | .bl j => q (.bl (decide (j = k))) μ
    | _ => False
  | _ => False
def zNotN : F2 := fun a b μ q => zIsN a b μ fun d μ' => match d with
  | .bl k => q (.bl (!k)) μ'
  | _ => False
def rIsAll : R2 := fun x y H Q => (y = .non ∧ Q (.bl (decide (x = .non))) H) ∨ rIsB x y H Q
def rNotAll : R2 := fun x y H Q => (y = .non ∧ Q (.bl (!decide (x = .non))) H) ∨ rNotB x y H Q
section
variable {X : Cx} {K : PySem.W.Frag}
theorem op_isAll : OpR X (compareOp .Is) rIsAll := op_isN.or op_isBl
theorem is_core {x : Ax} {H : Hp} {μ : Mu} {d e : D} {v u : V} {q : ZQ} {Q : VK} {neg : Bool} (z : ZH K H μ x) (r1 : Rep K H μ x d v) (r2 : Rep K H μ x e u) (h : zIsN d e μ q) (k : ∀ b, q (.bl b) μ → Q (.bl (if neg then !b else b)) H) :
    (u = .non ∧ Q (.bl (if neg then !decide (v = .non) else decide (v = .non))) H) ∨ ∃ a b : Bool, v = .bl a ∧ u = .bl b ∧ Q (.bl (if neg then !decide (a = b) else decide (a = b))) H := by
  unfold zIsN at h
  split at h
  · refine .inl ⟨r2.non, ?_⟩
    split at h
    · rw [r1.non, decide_eq_true rfl]; exact k _ h
    · rw [r1.ref, decide_eq_false (fun q => nomatch q)]; exact k _ h
    · exact h.elim
    · rename_i n1 n2 n3
      have hv : v ≠ .non := by
        cases d <;> simp only [Rep] at r1
        all_goals first | exact absurd rfl n1 | exact absurd rfl (n3 _) | (subst r1; exact (fun q => nomatch q)) | (obtain ⟨_, _, rfl, _⟩ := r1; exact (fun q => nomatch q)) | (obtain ⟨_, _, _, rfl, _⟩ := r1; exact (fun q => nomatch q))
      rw [decide_eq_false hv]; exact k _ h
  · split at h
    · exact .inr ⟨_, _, r1.bl, r2.bl, k _ h⟩
    · exact h.elim
  · exact h.elim
theorem lf_is : Lf2 K rIsAll zIsN := fun x H μ d e v u q Q z r1 r2 h p => is_core (neg := false) z r1 r2 h fun b hb => p.here z rep_bl hb
theorem lf_isNot : Lf2 K rNotAll zNotN := fun x H μ d e v u q Q z r1 r2 h p => is_core (neg := true) z r1 r2 h fun b hb => p.here z rep_bl hb
end

/-! ### tests -/
def tTru (K : PySem.W.Frag) (ta : TE) : TT := fun σ H Q => ta σ H fun x H' => ∃ k, TruV K x H' k ∧ Q k H'
def truD (d : D) (μ : Mu) : Option Bool := match d with
  | .non => some false
  | .bl b => some b
  | .int i => some (i != 0)
  | .str s => if s.length ≤ sizeLine then some ((s.length : Int) != 0) else none
  | d => match seqOf d μ with
    | some ds => some (!ds.isEmpty)
    | none => match d with
      | .ref a => match μ a with
        | some (.dct kvs) => some (!kvs.isEmpty)
        | _ => none
      | _ => none
def zTru (za : ZT) : ZB := fun ρ μ q e => za ρ μ (fun d μ1 => match truD d μ1 with
  | some k => q k μ1
  | none => False) e
/-- the value is True or False -/
def zTst (za : ZT) : ZB := fun ρ μ q e => za ρ μ (fun d μ1 => match d with
  | .bl k => q k μ1
  | _ => False) e
def zAnd (ta tb : ZB) : ZB := fun ρ μ q e => ta ρ μ (fun b μ1 => match b with
  | true => tb ρ μ1 q e
  | false => q false μ1) e
def zOr (ta tb : ZB) : ZB := fun ρ μ q e => ta ρ μ (fun b μ1 => match b with
  | true => q true μ1
  | false => tb ρ μ1 q e) e
def zNot (ta : ZB) : ZB := fun ρ μ q e => ta ρ μ (fun b μ1 => q (!b) μ1) e
def zIf (t : ZB) (za zb : ZT) : ZT := fun ρ μ q e => t ρ μ (fun b μ1 => match b with
  | true => za ρ μ1 q e
  | false => zb ρ μ1 q e) e
/-- and, or, not as values: all parts are True or False -/
def zVal (t : ZB) : ZT := fun ρ μ q e => t ρ μ (fun b μ1 => q (.bl b) μ1) e
section
variable {K : PySem.W.Frag} {W : WX} {ta tb : TE} {za zb : ZT} {ua ub : TT} {ya yb : ZB}
theorem tru_of {x : Ax} {H : Hp} {μ : Mu} {d : D} {v : V} {k : Bool} (z : ZH K H μ x) (r : Rep K H μ x d v) (h : truD d μ = some k) : TruV K v H k := by
  have lists : ∀ {ds : List D}, seqOf d μ = some ds → k = !ds.isEmpty → TruV K v H k := fun {ds} e e2 => by
    obtain ⟨a, vs, rfl, q, l⟩ := seq_of z r e
    have ei : ds.isEmpty = vs.isEmpty := by
      have := l.length
      cases ds <;> cases vs <;> simp_all
    rw [ei] at e2
    rcases q with q | q
    · exact .inl ⟨vs, q, e2⟩
    · exact .inr (.inl ⟨vs, q, e2⟩)
  unfold truD at h
  split at h
  · cases h; rw [r.non]; exact rfl
  · cases h; rw [r.bl]; exact rfl
  · cases h; rw [r.int]; exact rfl
  · split at h
    · rename_i hs
      cases h; rw [r.str]; exact ⟨hs, rfl⟩
    · cases h
  · split at h
    · rename_i ds e
      cases h
      exact lists e rfl
    · split at h
      · rename_i a e
        split at h
        · rename_i b _ _ _ _ _ kvs e3
          cases h
          have w := z.own _ _ e3
          simp only [Own] at w
          obtain ⟨us, e4, l⟩ := w
          rw [r.ref]
          refine .inr (.inr ⟨us, e4, ?_⟩)
          cases kvs with
          | nil => simp only [RepK] at l; subst l; rfl
          | cons p r =>
            obtain ⟨j, d⟩ := p
            simp only [RepK] at l
            obtain ⟨_, _, rfl, _⟩ := l
            rfl
        · cases h
      · cases h
theorem lt_tru (la : LE K W ta za) : LT K W (tTru K ta) (zTru za) := fun x σ H ρ μ q w Q I c hz k => by
  refine la x σ H ρ μ _ w _ I c hz fun d v H1 μ1 g1 z1 r1 h1 => ?_
  split at h1
  · rename_i b e
    exact ⟨b, tru_of z1 r1 e, k b H1 μ1 g1 z1 h1⟩
  · exact h1.elim
theorem lt_tst (la : LE K W ta za) : LT K W (tTest ta) (zTst za) := fun x σ H ρ μ q w Q I c hz k => by
  refine la x σ H ρ μ _ w _ I c hz fun d v H1 μ1 g1 z1 r1 h1 => ?_
  split at h1
  · exact ⟨_, r1.bl, k _ H1 μ1 g1 z1 h1⟩
  · exact h1.elim
theorem lt_and (la : LT K W ua ya) (lb : LT K W ub yb) : LT K W (tAnd ua ub) (zAnd ya yb) := fun x σ H ρ μ q w Q I c hz k => by
  refine la x σ H ρ μ _ w _ I c hz fun b H1 μ1 g1 z1 h1 => ?_
  cases b with
  | true => exact iteT (lb x σ H1 ρ μ1 q w Q (I.grow g1 z1) (c.grow g1) h1 fun b H2 μ2 g2 z2 h2 => k b H2 μ2 (g1.trans g2) z2 h2)
  | false => exact iteF (k false H1 μ1 g1 z1 h1)
theorem lt_or (la : LT K W ua ya) (lb : LT K W ub yb) : LT K W (tOr ua ub) (zOr ya yb) := fun x σ H ρ μ q w Q I c hz k => by
  refine la x σ H ρ μ _ w _ I c hz fun b H1 μ1 g1 z1 h1 => ?_
  cases b with
  | false => exact iteF (lb x σ H1 ρ μ1 q w Q (I.grow g1 z1) (c.grow g1) h1 fun b H2 μ2 g2 z2 h2 => k b H2 μ2 (g1.trans g2) z2 h2)
  | true => exact iteT (k true H1 μ1 g1 z1 h1)
theorem lt_not (la : LT K W ua ya) : LT K W (tNot ua) (zNot ya) := fun x σ H ρ μ q w Q I c hz k =>
  la x σ H ρ μ _ w _ I c hz fun b H1 μ1 g1 z1 h1 => k (!b) H1 μ1 g1 z1 h1
theorem le_if (lt : LT K W ua ya) (la : LE K W ta za) (lb : LE K W tb zb) : LE K W (tIf ua ta tb) (zIf ya za zb) := fun x σ H ρ μ q w Q I c hz k => by
  refine lt x σ H ρ μ _ w _ I c hz fun b H1 μ1 g1 z1 h1 => ?_
  cases b with
  | true => exact iteT (la x σ H1 ρ μ1 q w Q (I.grow g1 z1) (c.grow g1) h1 fun d v H2 μ2 g2 z2 r2 h2 => k d v H2 μ2 (g1.trans g2) z2 r2 h2)
  | false => exact iteF (lb x σ H1 ρ μ1 q w Q (I.grow g1 z1) (c.grow g1) h1 fun d v H2 μ2 g2 z2 r2 h2 => k d v H2 μ2 (g1.trans g2) z2 r2 h2)
/-- a and b, a or b, not a as values -/
def zAndV (za zb : ZT) : ZT := fun ρ μ q e => za ρ μ (fun d μ1 => match d with
  | .bl true => zb ρ μ1 q e
  | .bl false => q (.bl false) μ1
  | _ => False) e
def zOrV (za zb : ZT) : ZT := fun ρ μ q e => za ρ μ (fun d μ1 => match d with
  | .bl true => q (.bl true) μ1
  | .bl false => zb ρ μ1 q e
  | _ => False) e
def zNotV (za : ZT) : ZT := fun ρ μ q e => za ρ μ (fun d μ1 => match d with
  | .bl b => q (.bl (!b)) μ1
  | _ => False) e
theorem le_andV (la : LE K W ta za) (lb : LE K W tb zb) : LE K W (tAndV ta tb) (zAndV za zb) := fun x σ H ρ μ q w Q I c hz k => by
  refine la x σ H ρ μ _ w _ I c hz fun d v H1 μ1 g1 z1 r1 h1 => ?_
  split at h1
  · exact ⟨true, r1.bl, iteT (lb x σ H1 ρ μ1 q w Q (I.grow g1 z1) (c.grow g1) h1 fun d v H2 μ2 g2 z2 r2 h2 => k d v H2 μ2 (g1.trans g2) z2 r2 h2)⟩
  · exact ⟨false, r1.bl, iteF (k _ _ H1 μ1 g1 z1 rep_bl h1)⟩
  · exact h1.elim
theorem le_orV (la : LE K W ta za) (lb : LE K W tb zb) : LE K W (tOrV ta tb) (zOrV za zb) := fun x σ H ρ μ q w Q I c hz k => by
  refine la x σ H ρ μ _ w _ I c hz fun d v H1 μ1 g1 z1 r1 h1 => ?_
  split at h1
  · exact ⟨true, r1.bl, iteT (k _ _ H1 μ1 g1 z1 rep_bl h1)⟩
  · exact ⟨false, r1.bl, iteF (lb x σ H1 ρ μ1 q w Q (I.grow g1 z1) (c.grow g1) h1 fun d v H2 μ2 g2 z2 r2 h2 => k d v H2 μ2 (g1.trans g2) z2 r2 h2)⟩
  · exact h1.elim
theorem le_notV (la : LE K W ta za) : LE K W (tNotV ta) (zNotV za) := fun x σ H ρ μ q w Q I c hz k => by
  refine la x σ H ρ μ _ w _ I c hz fun d v H1 μ1 g1 z1 r1 h1 => ?_
  split at h1
  · exact ⟨_, r1.bl, k _ _ H1 μ1 g1 z1 rep_bl h1⟩
  · exact h1.elim
end
section
variable {X : Cx} {W : WX} {a b c : Expr} {ta tb tc : TE} {za zb zc : ZT} {ua ub : TT} {ya yb : ZB} {pos : Pos} {rest : List Expr}
theorem ztru (h : ZE X W a ta za) (he : ∀ whole, isTrue a X.env whole = (do let v ← whole; standAt a.pos; holding [v] (truthy v)) := by intro _; rfl) : ZTe X W a (tTru X.K ta) (zTru za) := ⟨pt_truth h.p he, lt_tru h.l⟩
theorem ztcmp {op : CmpOp} {r : R2} {f : F2} (ho : OpR X (compareOp op) r) (hl : Lf2 X.K r f) (ha : ZE X W a ta za) (hb : ZE X W b tb zb) (hm : behindInMarks op b = false := by rfl) : ZTe X W (.Compare a [op] [b] pos) (tTest (tOp r ta tb)) (zTst (zOp f za zb)) := ⟨pt_cmpR ho ha.p hb.p hm, lt_tst (le_op hl ha.l hb.l)⟩
theorem zand1 (h : ZTe X W a ua ya) : ZTw X W (.BoolOp .And [a] pos) ua ya := ⟨pw_and1 h.p, h.l⟩
theorem zor1 (h : ZTe X W a ua ya) : ZTw X W (.BoolOp .Or [a] pos) ua ya := ⟨pw_or1 h.p, h.l⟩
theorem zand (h : ZTe X W a ua ya) (h2 : ZTw X W (.BoolOp .And (b :: rest) pos) ub yb) : ZTw X W (.BoolOp .And (a :: b :: rest) pos) (tAnd ua ub) (zAnd ya yb) := ⟨pw_and h.p h2.p, lt_and h.l h2.l⟩
theorem zor (h : ZTe X W a ua ya) (h2 : ZTw X W (.BoolOp .Or (b :: rest) pos) ub yb) : ZTw X W (.BoolOp .Or (a :: b :: rest) pos) (tOr ua ub) (zOr ya yb) := ⟨pw_or h.p h2.p, lt_or h.l h2.l⟩
theorem ztw (h : ZTw X W a ua ya) : ZTe X W a ua ya := ⟨h.p.pt, h.l⟩
theorem znot (h : ZTe X W a ua ya) : ZTe X W (.UnaryOp .Not a pos) (tNot ua) (zNot ya) := ⟨pt_not h.p, lt_not h.l⟩
theorem zifx (h : ZTe X W c ua ya) (ha : ZE X W a ta za) (hb : ZE X W b tb zb) : ZE X W (.IfExp c a b pos) (tIf ua ta tb) (zIf ya za zb) := ⟨pe_ifExp h.p ha.p hb.p, le_if h.l ha.l hb.l⟩
theorem zone {op} (h : ZE X W a ta za) : ZE X W (.BoolOp op [a] pos) ta za := ⟨pe_one h.p, h.l⟩
theorem zandV (h : ZE X W a ta za) (h2 : ZE X W (.BoolOp .And (b :: rest) pos) tb zb) : ZE X W (.BoolOp .And (a :: b :: rest) pos) (tAndV ta tb) (zAndV za zb) := ⟨pe_and h.p h2.p, le_andV h.l h2.l⟩
theorem zorV (h : ZE X W a ta za) (h2 : ZE X W (.BoolOp .Or (b :: rest) pos) tb zb) : ZE X W (.BoolOp .Or (a :: b :: rest) pos) (tOrV ta tb) (zOrV za zb) := ⟨pe_or h.p h2.p, le_orV h.l h2.l⟩
theorem znotV (h : ZE X W a ta za) : ZE X W (.UnaryOp .Not a pos) (tNotV ta) (zNotV za) := ⟨pe_not h.p, le_notV h.l⟩
/-- a < b < c -/
def zChain (f f' : F2) (za zb zc : ZT) : ZT := fun ρ μ q e => za ρ μ (fun d μ1 => zb ρ μ1 (fun d2 μ2 => f d d2 μ2 fun k μ3 => match k with
  | .bl true => zc ρ μ3 (fun d3 μ4 => f' d2 d3 μ4 q) e
  | .bl false => q (.bl false) μ3
  | _ => False) e) e
theorem le_chain {K : PySem.W.Frag} {r r' : R2} {f f' : F2} (hf : Lf2 K r f) (hf' : Lf2 K r' f') (la : LE K W ta za) (lb : LE K W tb zb) (lc : LE K W tc zc) : LE K W (tChain r r' ta tb tc) (zChain f f' za zb zc) := fun x σ H ρ μ q w Q I c hz k => by
  refine la x σ H ρ μ _ w _ I c hz fun d v H1 μ1 g1 z1 r1 h1 => ?_
  refine lb x σ H1 ρ μ1 _ w _ (I.grow g1 z1) (c.grow g1) h1 fun d2 v2 H2 μ2 g2 z2 r2 h2 => ?_
  refine hf x H2 μ2 d d2 v v2 _ _ z2 (r1.mono g2) r2 h2 fun d3 v3 H3 μ3 g3 z3 r3 h3 => ?_
  split at h3
  · refine ⟨true, r3.bl, iteT ?_⟩
    refine lc x σ H3 ρ μ3 _ w _ (I.grow (g1.trans (g2.trans g3)) z3) (c.grow (g1.trans (g2.trans g3))) h3 fun d4 v4 H4 μ4 g4 z4 r4 h4 => ?_
    exact hf' x H4 μ4 d2 d4 v2 v4 q Q z4 (r2.mono (g3.trans g4)) r4 h4 fun d5 v5 H5 μ5 g5 z5 r5 h5 => k d5 v5 H5 μ5 (g1.trans (g2.trans (g3.trans (g4.trans g5)))) z5 r5 h5
  · exact ⟨false, r3.bl, iteF (k _ _ H3 μ3 (g1.trans (g2.trans g3)) z3 rep_bl h3)⟩
  · exact h3.elim
theorem zchain {op op' : CmpOp} {r r' : R2} {f f' : F2} (ho : OpR X (compareOp op) r) (hf : Lf2 X.K r f) (ho' : OpR X (compareOp op') r') (hf' : Lf2 X.K r' f') (ha : ZE X W a ta za) (hb : ZE X W b tb zb) (hc : ZE X W c tc zc) (hm : lastMarks [op, op'] [b, c] = false := by with_unfolding_all rfl) :
    ZE X W (.Compare a [op, op'] [b, c] pos) (tChain r r' ta tb tc) (zChain f f' za zb zc) := ⟨pe_chain ho ho' ha.p hb.p hc.p hm, le_chain hf hf' ha.l hb.l hc.l⟩
theorem ztchain {op op' : CmpOp} {r r' : R2} {f f' : F2} (ho : OpR X (compareOp op) r) (hf : Lf2 X.K r f) (ho' : OpR X (compareOp op') r') (hf' : Lf2 X.K r' f') (ha : ZE X W a ta za) (hb : ZE X W b tb zb) (hc : ZE X W c tc zc) (hm : lastMarks [op, op'] [b, c] = false := by with_unfolding_all rfl) :
    ZTe X W (.Compare a [op, op'] [b, c] pos) (tTest (tChain r r' ta tb tc)) (zTst (zChain f f' za zb zc)) := ⟨pt_chain ho ho' ha.p hb.p hc.p hm, lt_tst (le_chain hf hf' ha.l hb.l hc.l)⟩
end
end Z

set_option maxRecDepth 100000
set_option maxHeartbeats 4000000
namespace Z
open PySem L2 PyProof.Rows

/-! ### subscripts -/
section
variable {X : Cx}
theorem ix_dct (hu : X.A.units + 1 < cLine) : IxR X (fun x y H Q => ∃ a v, x = .ref a ∧ DGet H a y (some v) ∧ Q v H) := by
  intro value slice pins s σ H x y v u Q I rx ry h hs
  obtain ⟨a, w, rfl, g, q⟩ := h
  obtain rfl : v = Value.ref a := rx
  have hT := dict_typeIs I g
  unfold subscriptTail
  refine wpAny_bind ?_
  rw [getitemInPython_of_ne hT.not_modules]
  refine wpAny_bind (wpAny_specialOf hT PySem.F.slot_dict_getitem.lookup ?_)
  have fin : wpAny (model X.prog X.w) X.A (subscripted slice false (.ref a) u) (fun r s₃ => wpAny (model X.prog X.w) X.A (letTemporaryGo value (.ref a) r >>= fun _ => pure r) (EP X pins σ Q) X.xe s₃) X.xe s := by
    rw [hs]
    exact wpAny_operating (d_getItem hu I g ry fun w' s3 I3 rw' => wpAny_bind (wpAny_letTemporaryGo (wpAny_pure ⟨w, H, I3, rw', q⟩)))
  first
    | exact wpAny_pure (wpAny_bind fin)
    | exact wpAny_bind (wpAny_pure (wpAny_bind fin))
    | exact wpAny_bind fin
def rIxAll (K : PySem.W.Frag) : R2 := fun x y H Q => (∃ a v, x = .ref a ∧ DGet H a y (some v) ∧ Q v H) ∨ rIx K x y H Q
theorem ix_all (hu : X.A.units + 1 < cLine) : IxR X (rIxAll X.K) := (ix_dct hu).or ix_seq
end
def zIx : F2 := fun a i μ q => match dctOf a μ with
  | some kvs => match keyOf i with
    | some k => match lookK k kvs with
      | some d => q d μ
      | none => False
    | none => False
  | none => match i with
    | .int n => match a with
      | .str s => match atI s.cps.toList n with
        | some c => s.length ≤ sizeLine ∧ q (.str ⟨#[c]⟩) μ
        | none => False
      | a => match seqOf a μ with
        | some ds => match atI ds n with
          | some d => q d μ
          | none => False
        | none => False
    | _ => False
theorem atI_ofNat {α : Type} {xs : List α} {n : Nat} : atI xs (Int.ofNat n) = xs[n]? := by
  cases h : xs[n]? with
  | some v => exact atI_nat h
  | none =>
    have hn := List.getElem?_eq_none_iff.mp h
    unfold atI ixN
    rw [if_pos (by exact Int.natCast_nonneg n), if_neg (by show ¬ ((n : Int) < _); omega)]
    rfl
@[simp] theorem atI_lit {α : Type} {xs : List α} {n : Nat} : atI xs (@OfNat.ofNat Int n instOfNat) = xs[n]? := atI_ofNat
@[simp] theorem atI_cast {α : Type} {xs : List α} {n : Nat} : atI xs ((n : Nat) : Int) = xs[n]? := atI_ofNat
@[simp] theorem atI_neg1 {α : Type} {xs : List α} : atI xs (-1) = xs.getLast? := by
  unfold atI ixN
  rw [if_neg (by decide)]
  cases xs with
  | nil => rfl
  | cons a r =>
    rw [if_pos (by simp; omega), List.getLast?_eq_getElem?]
    have e : ((-1 : Int) + (((a :: r).length : Nat) : Int)).toNat = (a :: r).length - 1 := by simp only [List.length_cons]; omega
    show (a :: r)[((-1 : Int) + (((a :: r).length : Nat) : Int)).toNat]? = _
    rw [e]
section
variable {K : PySem.W.Frag} {H : Hp} {μ : Mu} {x : Ax}
theorem atI_rep {ds : List D} {vs : List V} {i : Int} {d : D} (l : RepL K H μ x ds vs) (h : atI ds i = some d) : ∃ v, atI vs i = some v ∧ Rep K H μ x d v := by
  unfold atI at h ⊢
  rw [← l.length]
  cases e : ixN ds.length i with
  | none => rw [e] at h; cases h
  | some j =>
    rw [e] at h
    exact l.get h
theorem lf_ix : Lf2 K (rIxAll K) zIx := fun x H μ d e v u q Q z r1 r2 h p => by
  unfold zIx at h
  split at h
  · rename_i kvs e1
    split at h
    · rename_i k e2
      split at h
      · rename_i w e3
        obtain ⟨a, us, rfl, q1, l⟩ := dct_of z r1 e1
        obtain ⟨v', e4, r4⟩ := (look_of (k := k) l).1 w e3
        rw [key_of r2 e2]
        exact .inl ⟨a, v', rfl, .inl ⟨us, k, q1, rfl, e4.symm⟩, p.here z r4 h⟩
      · exact h.elim
    · exact h.elim
  · split at h
    · split at h
      · split at h
        · rename_i c e3
          rw [r1.str, r2.int]
          exact .inr (.inr (.inr ⟨_, _, c, rfl, rfl, h.1, e3, p.here z rep_str h.2⟩))
        · exact h.elim
      · split at h
        · rename_i ds e3
          split at h
          · rename_i w e4
            obtain ⟨a, vs, rfl, q1, l⟩ := seq_of z r1 e3
            obtain ⟨v', e5, r5⟩ := atI_rep l e4
            rw [r2.int]
            rcases q1 with q1 | q1
            · exact .inr (.inl ⟨a, vs, _, v', rfl, rfl, q1, e5, p.here z r5 h⟩)
            · exact .inr (.inr (.inl ⟨a, vs, _, v', rfl, rfl, q1, e5, p.here z r5 h⟩))
          · exact h.elim
        · exact h.elim
    · exact h.elim
end
section
variable {X : Cx} {W : WX} {a b : Expr} {ta tb : TE} {za zb : ZT} {pos : Pos}
theorem zix {r : R2} {f : F2} (ho : IxR X r) (hl : Lf2 X.K r f) (ha : ZE X W a ta za) (hb : ZE X W b tb zb) (hs : PlainIx b := by exact fun _ _ => rfl) : ZE X W (.Subscript a b pos) (tOp r ta tb) (zOp f za zb) := ⟨pe_ix ho ha.p hb.p hs, le_op hl ha.l hb.l⟩
end

/-! ### slices -/
def cutD {α : Type} (xs : List α) (lo hi : Option Int) : List α := (xs.drop (HT.sIx xs.length 0 lo)).take (HT.sIx xs.length xs.length hi - HT.sIx xs.length 0 lo)
def zSl (a : D) (lo hi : Option Int) (μ : Mu) (q : ZQ) : Prop := match a with
  | .str s => s.length ≤ sizeLine ∧ q (.str (cutS s lo hi)) μ
  | .tup ds => q (.tup (cutD ds lo hi)) μ
  | a => match lstOf a μ with
    | some ds => q (.lst (cutD ds lo hi)) μ
    | none => False
abbrev ZO := Sl → Mu → (Option Int → Mu → Prop) → ZX → Prop
def zNoP : ZO := fun _ μ q _ => q none μ
def zPart (z : ZT) : ZO := fun ρ μ q e => z ρ μ (fun d μ1 => match d with
  | .int i => q (some i) μ1
  | _ => False) e
def zSlice (za : ZT) (zl zh : ZO) : ZT := fun ρ μ q e => za ρ μ (fun d μ1 => zl ρ μ1 (fun l μ2 => zh ρ μ2 (fun h μ3 => zSl d l h μ3 q) e) e) e
def LO (K : PySem.W.Frag) (W : WX) (t : TO) (z : ZO) : Prop :=
  ∀ (x : Ax) (σ : L2.St) (H : Hp) (ρ : Sl) (μ : Mu) (q : Option Int → Mu → Prop) (w : ZW) (Q : Option Int → Hp → Prop), ZInv K σ H ρ μ x → WC K W w H μ x → z ρ μ q (fun r μ' => w r ρ μ') →
    (∀ o H' μ', Grow H μ H' μ' x → ZH K H' μ' x → q o μ' → Q o H') → t σ H Q
structure ZPo (X : Cx) (W : WX) (e : Option Expr) (t : TO) (z : ZO) : Prop where
  p : PO X e t
  l : LO X.K W t z
def rSlAll (K : PySem.W.Frag) : V → Option Int → Option Int → Hp → VK → Prop := fun x lo hi H Q => rSlS x lo hi H Q ∨ rSlA K x lo hi H Q ∨ rSlL K x lo hi H Q
section
variable {X : Cx} {W : WX} {e : Expr} {te : TE} {ze : ZT} {lo hi : Option Expr} {tl th : TO} {zl zh : ZO} {pos p2 : Pos}
theorem sl_all : SlR X (rSlAll X.K) := sl_str.or (sl_tupA.or sl_list)
theorem znop : ZPo X W none tNoPart zNoP := ⟨po_none, fun x σ H ρ μ q w Q I c hz k => k none H μ Grow.refl I.zh hz⟩
theorem zpart (h : ZE X W e te ze) : ZPo X W (some e) (tPart te) (zPart ze) := ⟨po_some h.p, fun x σ H ρ μ q w Q I c hz k => by
  refine h.l x σ H ρ μ _ w _ I c hz fun d v H1 μ1 g1 z1 r1 h1 => ?_
  split at h1
  · exact ⟨_, r1.int, k _ H1 μ1 g1 z1 h1⟩
  · exact h1.elim⟩
theorem lf_sl {K : PySem.W.Frag} {x : Ax} {H : Hp} {μ : Mu} {d : D} {v : V} {lo hi : Option Int} {q : ZQ} {Q : VK} (z : ZH K H μ x) (r : Rep K H μ x d v) (h : zSl d lo hi μ q) (p : Post K H μ x q Q) : rSlAll K v lo hi H Q := by
  unfold zSl at h
  split at h
  · rw [r.str]; exact .inl ⟨_, rfl, h.1, p.here z rep_str h.2⟩
  · rename_i ds
    obtain ⟨a, vs, rfl, q1, l⟩ := r.tup
    have hl := l.length
    refine .inr (.inl ⟨a, vs, rfl, q1, fun hw => ?_, fun _ => ?_⟩)
    · rw [← hl] at hw
      have e : cutD ds lo hi = ds := by
        unfold cutD
        rw [hw.1, hw.2, List.drop_zero, Nat.sub_zero, List.take_length]
      rw [e] at h
      exact p.here z r h
    refine new_tup z ?_ p h
    unfold cutV cutD
    rw [← hl]
    exact (l.drop _).take _
  · split at h
    · rename_i ds e
      obtain ⟨a, vs, rfl, q1, l⟩ := lst_of z r e
      have hl := l.length
      refine .inr (.inr ⟨a, vs, rfl, q1, ?_⟩)
      refine new_lst z ?_ p h
      unfold cutV cutD
      rw [← hl]
      exact (l.drop _).take _
    · exact h.elim
theorem zslice (he : ZE X W e te ze) (hl : ZPo X W lo tl zl) (hh : ZPo X W hi th zh) : ZE X W (.Subscript e (.Slice lo hi none p2) pos) (tSl (rSlAll X.K) te tl th) (zSlice ze zl zh) := ⟨pe_slice sl_all he.p hl.p hh.p, fun x σ H ρ μ q w Q I c hz k => by
  refine he.l x σ H ρ μ _ w _ I c hz fun d v H1 μ1 g1 z1 r1 h1 => ?_
  refine hl.l x σ H1 ρ μ1 _ w _ (I.grow g1 z1) (c.grow g1) h1 fun l H2 μ2 g2 z2 h2 => ?_
  refine hh.l x σ H2 ρ μ2 _ w _ (I.grow (g1.trans g2) z2) (c.grow (g1.trans g2)) h2 fun u H3 μ3 g3 z3 h3 => ?_
  exact lf_sl z3 (r1.mono (g2.trans g3)) h3 fun d4 v4 H4 μ4 g4 z4 r4 h4 => k d4 v4 H4 μ4 (g1.trans (g2.trans (g3.trans g4))) z4 r4 h4⟩
end

/-! ### calls of built-ins -/
def lenD (d : D) (μ : Mu) : Option Nat := match d with
  | .str s => if s.length ≤ sizeLine then some s.length else none
  | d => match seqOf d μ with
    | some ds => some ds.length
    | none => match dctOf d μ with
      | some kvs => some kvs.length
      | none => none
def zLen : FL := fun ds μ q => match ds with
  | [d] => match lenD d μ with
    | some n => q (.int (n : Nat)) μ
    | none => False
  | _ => False
def zAbs : FL := fun ds μ q => match ds with
  | [.int i] => q (.int (if i < 0 then -i else i)) μ
  | _ => False
def zToInt : FL := fun ds μ q => match ds with
  | [.int i] => q (.int i) μ
  | [.bl b] => q (.int (if b then 1 else 0)) μ
  | [.str s] => match PySem.intText? s with
    | some n => s.length ≤ 640 ∧ q (.int n) μ
    | none => False
  | _ => False
def zToStr : FL := fun ds μ q => match ds with
  | [.int i] => i.natAbs.log2 < 1920 ∧ q (.str (toString i)) μ
  | [.str s] => q (.str s) μ
  | _ => False
def zToList : FL := fun ds μ q => match ds with
  | [d] => match seqOf d μ with
    | some es => q (.lst es) μ
    | none => False
  | _ => False
def zToListO : FL := fun ds μ q => match ds with
  | [d] => match seqOf d μ with
    | some es => ∀ p, μ p = none → q (.ref p) (updM μ p (.lst es))
    | none => False
  | _ => False
def zToTup : FL := fun ds μ q => match ds with
  | [d] => match seqOf d μ with
    | some es => q (.tup es) μ
    | none => False
  | _ => False
def blOf : D → Option Bool
  | .bl b => some b
  | _ => none
def blsOf : List D → Option (List Bool)
  | [] => some []
  | d :: ds => match blOf d, blsOf ds with
    | some b, some bs => some (b :: bs)
    | _, _ => none
def intsOf : List D → Option (List Int)
  | [] => some []
  | .int i :: ds => match intsOf ds with
    | some is => some (i :: is)
    | none => none
  | _ :: _ => none
def zAll : FL := fun ds μ q => match ds with
  | [d] => match lstOf d μ with
    | some es => match blsOf es with
      | some bs => q (.bl (bs.all id)) μ
      | none => False
    | none => False
  | _ => False
def zSum : FL := fun ds μ q => match ds with
  | [d] => match lstOf d μ with
    | some es => match intsOf es with
      | some is => q (.int is.sum) μ
      | none => False
    | none => False
  | _ => False
def zMax : FL := fun ds μ q => match ds with
  | [.int i, .int j] => q (.int (if j > i then j else i)) μ
  | [d] => match lstOf d μ with
    | some es => match intsOf es with
      | some is => 0 < is.length ∧ ∀ m, m ∈ is → (∀ y, y ∈ is → y ≤ m) → q (.int m) μ
      | none => False
    | none => False
  | _ => False
def zMin : FL := fun ds μ q => match ds with
  | [.int i, .int j] => q (.int (if j < i then j else i)) μ
  | [d] => match lstOf d μ with
    | some es => match intsOf es with
      | some is => 0 < is.length ∧ ∀ m, m ∈ is → (∀ y, y ∈ is → m ≤ y) → q (.int m) μ
      | none => False
    | none => False
  | _ => False
/-- dict(d): a copy that will change -/
def zToDctO : FL := fun ds μ q => match ds with
  | [d] => match dctOf d μ with
    | some kvs => ∀ p, μ p = none → q (.ref p) (updM μ p (.dct kvs))
    | none => False
  | _ => False
section
variable {X : Cx} {K : PySem.W.Frag}
def rLenAll (K : PySem.W.Frag) : List V → Hp → VK → Prop := fun xs H Q => (∃ x n, xs = [x] ∧ LenV K x H n ∧ Q (.int n) H) ∨ ∃ a kvs, xs = [V.ref a] ∧ Rd H a (.dK kvs) ∧ Q (.int kvs.length) H
theorem call_lenR : CallR X (.builtin "len") (fun xs H Q => ∃ a kvs, xs = [V.ref a] ∧ Rd H a (.dK kvs) ∧ Q (.int kvs.length) H) := by
  intro pins s σ H xs us Q I r h
  obtain ⟨a, kvs, rfl, ha, q⟩ := h
  obtain ⟨u, rfl, ru⟩ := vals1 r
  cases ru
  exact d_len I ha fun t s' I' => ⟨.int kvs.length, H, I', ⟨t, rfl⟩, q⟩
theorem call_lenAll : CallR X (.builtin "len") (rLenAll X.K) := call_len.or call_lenR
theorem repl1 {H : Hp} {μ : Mu} {x : Ax} {d : D} {vs : List V} (l : RepL K H μ x [d] vs) : ∃ v, vs = [v] ∧ Rep K H μ x d v := by
  simp only [RepL] at l
  obtain ⟨v, r, rfl, h1, rfl⟩ := l
  exact ⟨v, rfl, h1⟩
theorem repl2 {H : Hp} {μ : Mu} {x : Ax} {d e : D} {vs : List V} (l : RepL K H μ x [d, e] vs) : ∃ v u, vs = [v, u] ∧ Rep K H μ x d v ∧ Rep K H μ x e u := by
  simp only [RepL] at l
  obtain ⟨v, r, rfl, h1, u, r', rfl, h2, rfl⟩ := l
  exact ⟨v, u, rfl, h1, h2⟩
theorem repl3 {H : Hp} {μ : Mu} {x : Ax} {d e f : D} {vs : List V} (l : RepL K H μ x [d, e, f] vs) : ∃ v u t, vs = [v, u, t] ∧ Rep K H μ x d v ∧ Rep K H μ x e u ∧ Rep K H μ x f t := by
  simp only [RepL] at l
  obtain ⟨v, r, rfl, h1, u, r', rfl, h2, t, r'', rfl, h3, rfl⟩ := l
  exact ⟨v, u, t, rfl, h1, h2, h3⟩
theorem RepK.length {H : Hp} {μ : Mu} {x : Ax} : ∀ {kvs : List (Key × D)} {us : List (Key × V)}, RepK K H μ x kvs us → kvs.length = us.length
  | [], us, l => by simp only [RepK] at l; subst l; rfl
  | (k, d) :: r, us, l => by
    simp only [RepK] at l
    obtain ⟨v, r', rfl, _, h2⟩ := l
    simp [RepK.length h2]
theorem lf_len : LfL K (rLenAll K) zLen := fun x H μ ds vs q Q z l h p => by
  unfold zLen at h
  split at h
  · rename_i d
    obtain ⟨v, rfl, r⟩ := repl1 l
    split at h
    · rename_i n e
      unfold lenD at e
      split at e
      · split at e
        · rename_i hs
          cases e
          rw [r.str]
          exact .inl ⟨_, _, rfl, ⟨hs, rfl⟩, p.here z rep_int h⟩
        · cases e
      · split at e
        · rename_i es e2
          cases e
          obtain ⟨a, us, rfl, q1, l2⟩ := seq_of z r e2
          refine .inl ⟨_, es.length, rfl, ?_, p.here z rep_int h⟩
          rw [l2.length]
          exact q1.imp (fun q => ⟨us, q, rfl⟩) (fun q => ⟨us, q, rfl⟩)
        · split at e
          · rename_i kvs e2
            cases e
            obtain ⟨a, us, rfl, q1, l2⟩ := dct_of z r e2
            have hl : kvs.length = us.length := l2.length
            exact .inr ⟨a, us, rfl, q1, by rw [← hl]; exact p.here z rep_int h⟩
          · cases e
    · exact h.elim
  · exact h.elim
theorem lf_abs : LfL K (fun xs H Q => ∃ i, xs = [.int i] ∧ Q (.int (if i < 0 then -i else i)) H) zAbs := fun x H μ ds vs q Q z l h p => by
  unfold zAbs at h
  split at h
  · obtain ⟨v, rfl, r⟩ := repl1 l
    exact ⟨_, by rw [r.int], p.here z rep_int h⟩
  · exact h.elim
def rToInt : List V → Hp → VK → Prop := fun xs H Q => ((∃ i, xs = [.int i] ∧ Q (.int i) H) ∨ ∃ k, xs = [.bl k] ∧ Q (.int (if k then 1 else 0)) H) ∨ ∃ a n, xs = [.str a] ∧ PySem.intText? a = some n ∧ a.length ≤ 640 ∧ Q (.int n) H
theorem call_toInt : CallR X (.type "int") rToInt := call_int1.or call_int_str
theorem lf_toInt : LfL K rToInt zToInt := fun x H μ ds vs q Q z l h p => by
  unfold zToInt at h
  split at h
  · obtain ⟨v, rfl, r⟩ := repl1 l
    exact .inl (.inl ⟨_, by rw [r.int], p.here z rep_int h⟩)
  · obtain ⟨v, rfl, r⟩ := repl1 l
    exact .inl (.inr ⟨_, by rw [r.bl], p.here z rep_int h⟩)
  · obtain ⟨v, rfl, r⟩ := repl1 l
    split at h
    · rename_i n e
      exact .inr ⟨_, n, by rw [r.str], e, h.1, p.here z rep_int h.2⟩
    · exact h.elim
  · exact h.elim
def rToStr : List V → Hp → VK → Prop := fun xs H Q => (∃ i, xs = [.int i] ∧ i.natAbs.log2 < 1920 ∧ Q (.str (toString i)) H) ∨ ∃ a, xs = [.str a] ∧ Q (.str a) H
theorem call_toStr : CallR X (.type "str") rToStr := call_str_int.or SkE.call_str_str
theorem lf_toStr : LfL K rToStr zToStr := fun x H μ ds vs q Q z l h p => by
  unfold zToStr at h
  split at h
  · obtain ⟨v, rfl, r⟩ := repl1 l
    exact .inl ⟨_, by rw [r.int], h.1, p.here z rep_str h.2⟩
  · obtain ⟨v, rfl, r⟩ := repl1 l
    exact .inr ⟨_, by rw [r.str], p.here z rep_str h⟩
  · exact h.elim
def rToList (K : PySem.W.Frag) : List V → Hp → VK → Prop := fun xs H Q => ∃ p ys, xs = [.ref p] ∧ (SqL K H p ys ∨ SqT K H p ys) ∧ ∀ l, H l = none → Q (.ref l) (upd H l (.lst ys))
theorem lf_toList : LfL K (rToList K) zToList := fun x H μ ds vs q Q z l h p => by
  unfold zToList at h
  split at h
  · obtain ⟨v, rfl, r⟩ := repl1 l
    split at h
    · rename_i es e
      obtain ⟨a, us, rfl, q1, l2⟩ := seq_of z r e
      exact ⟨a, us, rfl, q1, new_lst z l2 p h⟩
    · exact h.elim
  · exact h.elim
theorem lf_toListO : LfL K (rToList K) zToListO := fun x H μ ds vs q Q z l h p => by
  unfold zToListO at h
  split at h
  · obtain ⟨v, rfl, r⟩ := repl1 l
    split at h
    · rename_i es e
      obtain ⟨a, us, rfl, q1, l2⟩ := seq_of z r e
      exact ⟨a, us, rfl, q1, new_lstO z l2 p h⟩
    · exact h.elim
  · exact h.elim
def rToTup (K : PySem.W.Frag) : List V → Hp → VK → Prop := fun xs H Q => ∃ p ys, xs = [.ref p] ∧ ((SqL K H p ys ∧ ∀ l, H l = none → Q (.ref l) (upd H l (.tup ys))) ∨ (SqT K H p ys ∧ Q (.ref p) H))
theorem lf_toTup : LfL K (rToTup K) zToTup := fun x H μ ds vs q Q z l h p => by
  unfold zToTup at h
  split at h
  · obtain ⟨v, rfl, r⟩ := repl1 l
    rename_i d
    split at h
    · rename_i es e
      cases d with
      | tup fs =>
        cases (Option.some.inj e : fs = es)
        obtain ⟨a, us, rfl, q1, l2⟩ := r.tup
        exact ⟨a, us, rfl, .inr ⟨q1, p.here z r h⟩⟩
      | lst fs =>
        obtain ⟨a, us, rfl, q1, l2⟩ := lst_of z r (ds := es) e
        exact ⟨a, us, rfl, .inl ⟨q1, new_tup z l2 p h⟩⟩
      | klst fs =>
        obtain ⟨a, us, rfl, q1, l2⟩ := lst_of z r (ds := es) e
        exact ⟨a, us, rfl, .inl ⟨q1, new_tup z l2 p h⟩⟩
      | ref fs =>
        obtain ⟨a, us, rfl, q1, l2⟩ := lst_of z r (ds := es) e
        exact ⟨a, us, rfl, .inl ⟨q1, new_tup z l2 p h⟩⟩
      | _ => cases e
    · exact h.elim
  · exact h.elim
theorem bls_of {H : Hp} {μ : Mu} {x : Ax} : ∀ {ds : List D} {vs : List V} {bs : List Bool}, RepL K H μ x ds vs → blsOf ds = some bs → vs = bs.map V.bl
  | [], vs, bs, l, h => by simp only [blsOf, Option.some.injEq] at h; subst h; simpa [RepL] using l
  | d :: ds, vs, bs, l, h => by
    simp only [RepL] at l
    obtain ⟨v, r, rfl, h1, h2⟩ := l
    simp only [blsOf] at h
    split at h
    · rename_i b bs' e1 e2
      cases h
      cases d <;> simp only [blOf] at e1
      all_goals first | (cases e1; rw [h1.bl, bls_of h2 e2]; rfl) | (cases e1)
    · cases h
theorem ints_of {H : Hp} {μ : Mu} {x : Ax} : ∀ {ds : List D} {vs : List V} {bs : List Int}, RepL K H μ x ds vs → intsOf ds = some bs → vs = bs.map V.int
  | [], vs, bs, l, h => by simp only [intsOf, Option.some.injEq] at h; subst h; simpa [RepL] using l
  | .int i :: ds, vs, bs, l, h => by
    simp only [RepL] at l
    obtain ⟨v, r, rfl, h1, h2⟩ := l
    simp only [intsOf] at h
    split at h
    · rename_i bs' e2
      cases h
      rw [h1.int, ints_of h2 e2]; rfl
    · cases h
  | .non :: ds, vs, bs, l, h => by simp only [intsOf] at h; cases h
  | .bl _ :: ds, vs, bs, l, h => by simp only [intsOf] at h; cases h
  | .str _ :: ds, vs, bs, l, h => by simp only [intsOf] at h; cases h
  | .lst _ :: ds, vs, bs, l, h => by simp only [intsOf] at h; cases h
  | .klst _ :: ds, vs, bs, l, h => by simp only [intsOf] at h; cases h
  | .tup _ :: ds, vs, bs, l, h => by simp only [intsOf] at h; cases h
  | .dct _ :: ds, vs, bs, l, h => by simp only [intsOf] at h; cases h
  | .ins _ _ :: ds, vs, bs, l, h => by simp only [intsOf] at h; cases h
  | .ref _ :: ds, vs, bs, l, h => by simp only [intsOf] at h; cases h
  | .oth _ :: ds, vs, bs, l, h => by simp only [intsOf] at h; cases h
theorem lf_all : LfL K (rAll K) zAll := fun x H μ ds vs q Q z l h p => by
  unfold zAll at h
  split at h
  · obtain ⟨v, rfl, r⟩ := repl1 l
    split at h
    · rename_i es e
      split at h
      · rename_i bs e2
        obtain ⟨a, us, rfl, q1, l2⟩ := lst_of z r e
        have e3 := bls_of l2 e2
        subst e3
        exact ⟨a, bs, rfl, q1, p.here z rep_bl h⟩
      · exact h.elim
    · exact h.elim
  · exact h.elim
theorem lf_sum : LfL K (rSum K) zSum := fun x H μ ds vs q Q z l h p => by
  unfold zSum at h
  split at h
  · obtain ⟨v, rfl, r⟩ := repl1 l
    split at h
    · rename_i es e
      split at h
      · rename_i bs e2
        obtain ⟨a, us, rfl, q1, l2⟩ := lst_of z r e
        have e3 := ints_of l2 e2
        subst e3
        exact ⟨a, bs, rfl, q1, p.here z rep_int h⟩
      · exact h.elim
    · exact h.elim
  · exact h.elim
def rMaxAll (K : PySem.W.Frag) : List V → Hp → VK → Prop := fun xs H Q => (∃ i j, xs = [.int i, .int j] ∧ Q (.int (if j > i then j else i)) H) ∨ rMax K xs H Q
def rMinAll (K : PySem.W.Frag) : List V → Hp → VK → Prop := fun xs H Q => (∃ i j, xs = [.int i, .int j] ∧ Q (.int (if j < i then j else i)) H) ∨ rMin K xs H Q
theorem call_maxAll (hc : X.calm = true) : CallR X (.builtin "max") (rMaxAll X.K) := (call_max2 hc).or (cr_max hc)
theorem call_minAll (hc : X.calm = true) : CallR X (.builtin "min") (rMinAll X.K) := (call_min2 hc).or (cr_min hc)
theorem lf_max : LfL K (rMaxAll K) zMax := fun x H μ ds vs q Q z l h p => by
  unfold zMax at h
  split at h
  · obtain ⟨v, u, rfl, r, r2⟩ := repl2 l
    rw [r.int, r2.int]
    exact .inl ⟨_, _, rfl, p.here z rep_int h⟩
  · obtain ⟨v, rfl, r⟩ := repl1 l
    split at h
    · rename_i es e
      split at h
      · rename_i bs e2
        obtain ⟨a, us, rfl, q1, l2⟩ := lst_of z r e
        have e3 := ints_of l2 e2
        subst e3
        exact .inr ⟨a, bs, rfl, q1, h.1, fun m hm hy => p.here z rep_int (h.2 m hm hy)⟩
      · exact h.elim
    · exact h.elim
  · exact h.elim
theorem lf_min : LfL K (rMinAll K) zMin := fun x H μ ds vs q Q z l h p => by
  unfold zMin at h
  split at h
  · obtain ⟨v, u, rfl, r, r2⟩ := repl2 l
    rw [r.int, r2.int]
    exact .inl ⟨_, _, rfl, p.here z rep_int h⟩
  · obtain ⟨v, rfl, r⟩ := repl1 l
    split at h
    · rename_i es e
      split at h
      · rename_i bs e2
        obtain ⟨a, us, rfl, q1, l2⟩ := lst_of z r e
        have e3 := ints_of l2 e2
        subst e3
        exact .inr ⟨a, bs, rfl, q1, h.1, fun m hm hy => p.here z rep_int (h.2 m hm hy)⟩
      · exact h.elim
    · exact h.elim
  · exact h.elim
def rToDct : List V → Hp → VK → Prop := fun xs H Q => ∃ (a : Addr) (kvs : List (Key × V)), xs = [.ref a] ∧ Rd H a (.dK kvs) ∧ ∀ p, H p = none → Q (.ref p) (upd H p (.dK kvs))
theorem lf_toDctO : LfL K rToDct zToDctO := fun x H μ ds vs q Q z l h p => by
  unfold zToDctO at h
  split at h
  · obtain ⟨v, rfl, r⟩ := repl1 l
    split at h
    · rename_i es e
      obtain ⟨a, us, rfl, q1, l2⟩ := dct_of z r e
      exact ⟨a, us, rfl, q1, new_dctO z l2 p h⟩
    · exact h.elim
  · exact h.elim
end
end Z

set_option maxRecDepth 100000
set_option maxHeartbeats 4000000
namespace Z
open PySem L2

/-- what a body's rules lean on -/
structure ZC (X : Cx) (W : WX) (k : Nat) : Prop where
  calm : X.calm = true
  nd : X.N.Nodup
  room : Room k X.A
  tk : Takes X W
  po : PassesOwn (model X.prog X.w) X.A X.env X.xe
theorem ZC.hu {X : Cx} {W : WX} {k : Nat} (c : ZC X W k) : X.A.units + 1 < cLine := hu_of c.room
theorem ZC.hu64 {X : Cx} {W : WX} {k : Nat} (c : ZC X W k) : X.A.units + 64 < cLine := c.room.units

/-! ### calls of defs -/
abbrev Zp := List D → Mu → ZQ → ZX → Prop
def spOf (K : PySem.W.Frag) (n : Nat) (S : Zp) : Sp := fun vs H Q E => vs.length = n ∧ ∃ x ds μ q e, ZH K H μ x ∧ RepL K H μ x ds vs ∧ S ds μ q e ∧ Post K H μ x q Q ∧
  ∀ r cls dd H' μ', Grow H μ H' μ' x → ZH K H' μ' x → ErrRep K H' μ' x r cls dd → e r μ' → E cls dd H'
def zCall (S : Zp) (zas : ZA) : ZT := fun ρ μ q e => zas ρ μ (fun ds μ1 => S ds μ1 q e) e
def zCall0 (S : Zp) : ZT := fun ρ μ q e => S [] μ q (fun _ _ => False)
section
variable {X : Cx} {W : WX} {k j n : Nat} {f : Addr} {fd : FuncData} {ps : List Str} {S : Zp} {x : Str} {p pos : Pos} {e : Expr} {es : List Expr} {tas : TA} {zas : ZA}
theorem le_call (la : LA X.K W n tas zas) : LE X.K W (tCallS (spOf X.K n S) (WE W) tas) (zCall S zas) := fun x σ H ρ μ q w Q I c hz k => by
  refine la x σ H ρ μ _ w _ I c hz fun ds vs H1 μ1 g1 z1 r1 l1 h1 => ?_
  refine ⟨l1, x, ds, μ1, q, _, z1, r1, h1, fun d v H' μ' g => k d v H' μ' (g1.trans g), fun r cls dd H' μ' g z er hw => ?_⟩
  exact c σ H' ρ μ' cls dd r (g1.trans g) (I.grow (g1.trans g) z) er hw
theorem zcall (c : ZC X W k) (F : FnOk X.prog X.w X.K X.mg X.base (L2.CX X.prog X.w) j f fd ps (spOf X.K n S)) (hm : X.mg x = some (.ref f)) (hk : PySem.W.keepIn X.K (.ref f) = true) (hb : Binds X.K fd ps []) (ha : ZAr X W n (e :: es) tas zas) (hj : j ≤ k := by decide)
    (hg : Gl X x := by rfl) (hdb : (x == ("__debug__" : Str)) = false := by decide) (he : starEach (e :: es) X.env = (false, eval e X.env) :: starEach es X.env := by rfl) (hpl : (backTo pos (starEach es X.env)).any (·.1) = false := by rfl) :
    ZE X W (.Call (.Name x p) (e :: es) [] pos) (tCallS (spOf X.K n S) (WE W) tas) (zCall S zas) :=
  ⟨pe_callS F (c.room.mono hj) hg hm hk hb (fun σ => passAt c.tk σ) ha.p hdb he hpl, le_call ha.l⟩
theorem zcall0 (c : ZC X W k) (F : FnOk X.prog X.w X.K X.mg X.base (L2.CX X.prog X.w) j f fd ps (spOf X.K 0 S)) (hm : X.mg x = some (.ref f)) (hk : PySem.W.keepIn X.K (.ref f) = true) (hb : Binds X.K fd ps []) (hj : j ≤ k := by decide)
    (hg : Gl X x := by rfl) (hdb : (x == ("__debug__" : Str)) = false := by decide) :
    ZE X W (.Call (.Name x p) [] [] pos) (tCall (spOf X.K 0 S) [] E0 tNil) (zCall0 S) :=
  ⟨pe_call0 F (c.room.mono hj) hg hm hk hb .nil passL hdb, fun x σ H ρ μ q w Q I c hz k =>
    ⟨rfl, x, [], μ, q, _, I.zh, by simp [RepL], hz, k, fun r cls dd H' μ' g z er hw => hw.elim⟩⟩
end

/-! ### targets -/
abbrev ZG := D → Sl → Mu → (Sl → Mu → Prop) → Prop
abbrev ZGs := List D → Sl → Mu → (Sl → Mu → Prop) → Prop
def LG (K : PySem.W.Frag) (g : TG) (zg : ZG) : Prop := ∀ (x : Ax) d v σ H ρ μ (k : Sl → Mu → Prop) (k' : St → Hp → Prop), ZInv K σ H ρ μ x → Rep K H μ x d v → zg d ρ μ k →
  (∀ σ' H' ρ' μ', Grow H μ H' μ' x → ZInv K σ' H' ρ' μ' x → k ρ' μ' → k' σ' H') → g v σ H k'
def LGs (K : PySem.W.Frag) (g : TGs) (zg : ZGs) : Prop := ∀ (x : Ax) ds vs σ H ρ μ (k : Sl → Mu → Prop) (k' : St → Hp → Prop), ZInv K σ H ρ μ x → RepL K H μ x ds vs → zg ds ρ μ k →
  (∀ σ' H' ρ' μ', Grow H μ H' μ' x → ZInv K σ' H' ρ' μ' x → k ρ' μ' → k' σ' H') → g vs σ H k'
structure ZPg (X : Cx) (tg : Expr) (g : TG) (zg : ZG) : Prop where
  p : PG X tg g
  l : LG X.K g zg
structure ZPgs (X : Cx) (tg : List Expr) (g : TGs) (zg : ZGs) : Prop where
  p : PGs X tg g
  l : LGs X.K g zg
def zgName (i : Nat) : ZG := fun d ρ μ k => k (ρ.set i (some d)) μ
def zgNil : ZGs := fun ds ρ μ k => match ds with
  | [] => k ρ μ
  | _ => False
def zgCons (g : ZG) (gs : ZGs) : ZGs := fun ds ρ μ k => match ds with
  | d :: r => g d ρ μ fun ρ1 μ1 => gs r ρ1 μ1 k
  | [] => False
def zgTup (n : Nat) (gs : ZGs) : ZG := fun d ρ μ k => match d with
  | .tup ds => ds.length = n ∧ gs ds ρ μ k
  | _ => False
section
variable {K : PySem.W.Frag}
theorem lg_name {i : Nat} : LG K (gName i) (zgName i) := fun x d v σ H ρ μ k k' I r h hk => hk _ H _ μ Grow.refl (I.set r i) h
theorem lgs_nil : LGs K gNil zgNil := fun x ds vs σ H ρ μ k k' I r h hk => by
  unfold zgNil at h
  split at h
  · simp only [RepL] at r
    exact ⟨r, hk σ H ρ μ Grow.refl I h⟩
  · exact h.elim
theorem lgs_cons {g : TG} {zg : ZG} {gs : TGs} {zgs : ZGs} (h1 : LG K g zg) (h2 : LGs K gs zgs) : LGs K (gCons g gs) (zgCons zg zgs) := fun x ds vs σ H ρ μ k k' I r h hk => by
  unfold zgCons at h
  split at h
  · simp only [RepL] at r
    obtain ⟨v, r', rfl, q1, q2⟩ := r
    refine ⟨v, r', rfl, ?_⟩
    refine h1 x _ v σ H ρ μ _ _ I q1 h fun σ1 H1 ρ1 μ1 g1 I1 h1 => ?_
    exact h2 x _ r' σ1 H1 ρ1 μ1 _ _ I1 (RepL.mono g1 _ _ q2) h1 fun σ2 H2 ρ2 μ2 g2 I2 h2 => hk σ2 H2 ρ2 μ2 (g1.trans g2) I2 h2
  · exact h.elim
theorem lg_tup {n : Nat} {gs : TGs} {zgs : ZGs} (h1 : LGs K gs zgs) : LG K (gTup K n gs) (zgTup n zgs) := fun x d v σ H ρ μ k k' I r h hk => by
  unfold zgTup at h
  split at h
  · obtain ⟨a, vs, rfl, q, l⟩ := r.tup
    exact ⟨a, vs, rfl, q, by rw [← l.length]; exact h.1, h1 x _ vs σ H ρ μ _ _ I l h.2 hk⟩
  · exact h.elim
end
section
variable {X : Cx} {W : WX} {pos : Pos}
theorem zgn (i : Nat) {x : Str} (nd : X.N.Nodup) (hi : X.N[i]? = some x := by rfl) (hx : Loc X.env.scope x := by first | exact Or.inl rfl | exact Or.inr rfl) (hf : X.fn x = true ∨ X.env.scope.names.lookup x = some .local := by first | exact .inl rfl | exact .inr rfl | assumption) :
    ZPg X (.Name x pos) (gName i) (zgName i) := ⟨pg_name nd hi hx hf, lg_name⟩
theorem zgsnil : ZPgs X [] gNil zgNil := ⟨pgs_nil, lgs_nil⟩
theorem zgscons {e : Expr} {es : List Expr} {g : TG} {zg : ZG} {gs : TGs} {zgs : ZGs} (h1 : ZPg X e g zg) (h2 : ZPgs X es gs zgs) (hs : (assignEach (e :: es) X.env).map (·.2) = assign e X.env :: (assignEach es X.env).map (·.2) := by rfl) :
    ZPgs X (e :: es) (gCons g gs) (zgCons zg zgs) := ⟨pgs_cons h1.p h2.p hs, lgs_cons h1.l h2.l⟩
theorem zgtup {es : List Expr} {k n : Nat} {gs : TGs} {zgs : ZGs} (hc : X.calm = true) (h : ZPgs X es gs zgs) (hn : (assignEach es X.env).length = n := by rfl) (hst : (assignEach es X.env).findIdx? (·.1) = none := by rfl) :
    ZPg X (.Tuple es k pos) (gTup X.K n gs) (zgTup n zgs) := ⟨pg_tup hc h.p hn hst, lg_tup h.l⟩
end

/-! ### statements -/
def zNext : ZS := fun D ρ μ => D.nx ρ μ
def zSeq (a b : ZS) : ZS := fun D ρ μ => a { D with nx := b D } ρ μ
def zBrk : ZS := fun D ρ μ => D.bk ρ μ
def zCnt : ZS := fun D ρ μ => D.ct ρ μ
def zDrop (z : ZT) : ZS := fun D ρ μ => z ρ μ (fun _ μ1 => D.nx ρ μ1) (fun r μ1 => D.ex r ρ μ1)
def zRet (z : ZT) : ZS := fun D ρ μ => z ρ μ D.rt (fun r μ1 => D.ex r ρ μ1)
def zRetN : ZS := fun D _ μ => D.rt .non μ
def zIfS (c : ZB) (a b : ZS) : ZS := fun D ρ μ => c ρ μ (fun k μ1 => match k with
  | true => a D ρ μ1
  | false => b D ρ μ1) (fun r μ1 => D.ex r ρ μ1)
def zAsg (z : ZT) (g : ZG) : ZS := fun D ρ μ => z ρ μ (fun d μ1 => g d ρ μ1 D.nx) (fun r μ1 => D.ex r ρ μ1)
def zAugI (i : Nat) (z : ZT) (f : Int → Int → Int) : ZS := fun D ρ μ => match sget ρ i with
  | some (.int a) => z ρ μ (fun d μ1 => match d with
    | .int b => D.nx (ρ.set i (some (.int (f a b)))) μ1
    | _ => False) (fun r μ1 => D.ex r ρ μ1)
  | _ => False
def zNever : ZS := fun _ _ _ => False
/-- from here on the object that a name has stays as it is -/
def zFrz (i : Nat) (z : ZS) : ZS := fun D ρ μ => match sget ρ i with
  | some (.ref a) => match μ a with
    | some c => z D (ρ.set i (some c)) (delM μ a)
    | none => False
  | _ => z D ρ μ
section
variable {K : PySem.W.Frag} {W : WX} {t u : TS} {z y : ZS} {te : TE} {ze : ZT} {tt : TT} {zt : ZB} {g : TG} {zg : ZG}
theorem ls_next : LS K W tNext zNext := fun x σ H ρ μ D D' I c h e => e.nx σ H ρ μ Grow.refl I h
theorem ls_seq (h1 : LS K W t z) (h2 : LS K W u y) : LS K W (tSeq t u) (zSeq z y) := fun x σ H ρ μ D D' I c h e =>
  h1 x σ H ρ μ { D with nx := y D } { D' with nx := u D' } I c h ⟨fun σ' H' ρ' μ' g I' h' => h2 x σ' H' ρ' μ' D D' I' (c.grow g) h' (e.grow g), e.rt, e.bk, e.ct⟩
theorem ls_brk : LS K W tBreak zBrk := fun x σ H ρ μ D D' I c h e => e.bk σ H ρ μ Grow.refl I h
theorem ls_cnt : LS K W tCont zCnt := fun x σ H ρ μ D D' I c h e => e.ct σ H ρ μ Grow.refl I h
theorem ls_drop (h1 : LE K W te ze) : LS K W (tDrop te) (zDrop ze) := fun x σ H ρ μ D D' I c h e =>
  h1 x σ H ρ μ _ D.ex _ I c h fun d v H' μ' g z r h' => e.nx σ H' ρ μ' g (I.grow g z) h'
theorem ls_ret (h1 : LE K W te ze) : LS K W (tRet te) (zRet ze) := fun x σ H ρ μ D D' I c h e =>
  h1 x σ H ρ μ _ D.ex _ I c h e.rt
theorem ls_retN : LS K W tRetN zRetN := fun x σ H ρ μ D D' I c h e => e.rt .non .non H μ Grow.refl I.zh rep_non h
theorem ls_if (hc : LT K W tt zt) (h1 : LS K W t z) (h2 : LS K W u y) : LS K W (tIfS tt t u) (zIfS zt z y) := fun x σ H ρ μ D D' I c h e => by
  refine hc x σ H ρ μ _ D.ex _ I c h fun b H1 μ1 g1 z1 q => ?_
  cases b with
  | true => exact iteT (h1 x σ H1 ρ μ1 D D' (I.grow g1 z1) (c.grow g1) q (e.grow g1))
  | false => exact iteF (h2 x σ H1 ρ μ1 D D' (I.grow g1 z1) (c.grow g1) q (e.grow g1))
theorem ls_asg (h1 : LE K W te ze) (h2 : LG K g zg) : LS K W (tAsg te g) (zAsg ze zg) := fun x σ H ρ μ D D' I c h e =>
  h1 x σ H ρ μ _ D.ex _ I c h fun d v H' μ' g z r h' => h2 x d v σ H' ρ μ' _ _ (I.grow g z) r h' fun σ2 H2 ρ2 μ2 g2 I2 q => e.nx σ2 H2 ρ2 μ2 (g.trans g2) I2 q
theorem ls_aug {i : Nat} {f : Int → Int → Int} (h1 : LE K W te ze) : LS K W (tAug i te (ipI f)) (zAugI i ze f) := fun x σ H ρ μ D D' I c h e => by
  unfold zAugI at h
  split at h
  · rename_i a ea
    obtain ⟨v, e1, r1⟩ := I.sl i _ (sget_eq ρ i _ ea)
    refine ⟨v, e1, ?_⟩
    refine h1 x σ H ρ μ _ D.ex _ I c h fun d u H' μ' g z r h' => ?_
    split at h'
    · exact ⟨_, _, r1.int, r.int, e.nx _ H' _ μ' g ((I.grow g z).set rep_int i) h'⟩
    · exact h'.elim
  · exact h.elim
theorem ls_never {t : TS} : LS K W t zNever := fun x σ H ρ μ D D' I c h e => h.elim
theorem ls_frz {i : Nat} (h1 : LS K W t z) : LS K W t (zFrz i z) := fun x σ H ρ μ D D' I c h e => by
  unfold zFrz at h
  split at h
  · rename_i a ea
    split at h
    · rename_i b eb
      have g : Grow H μ H (delM μ a) x := ZH.gfreeze
      obtain ⟨v, e1, r1⟩ := I.sl i _ (sget_eq ρ i _ ea)
      have I1 : ZInv K σ H ρ (delM μ a) x := I.grow g I.zh.freeze
      have e2 := r1.ref
      subst e2
      have I2 : ZInv K (σ.set i (some (.ref a))) H (ρ.set i (some b)) (delM μ a) x := I1.set (I.zh.frozen eb) i
      have e3 : σ.set i (some (V.ref a)) = σ := by
        apply List.ext_getElem?
        intro j
        by_cases hj : i = j
        · subst hj
          have hi : i < σ.length := (List.getElem?_eq_some_iff.mp e1).1
          rw [List.getElem?_set_self hi, e1]
        · rw [List.getElem?_set_ne hj]
      rw [e3] at I2
      exact h1 x σ H _ _ D D' I2 (c.grow g) h (e.grow g)
    · exact h.elim
  · exact h1 x σ H ρ μ D D' I c h e
end
section
variable {X : Cx} {W : WX} {t u : TS} {z y : ZS} {te : TE} {ze : ZT} {tt : TT} {zt : ZB} {g : TG} {zg : ZG} {st : Stmt} {rest a b : List Stmt} {e c : Expr} {pos : Pos} {i : Nat} {x : Str} {pos' : Pos}
theorem zsnil : ZSs X W [] tNext zNext := ⟨pss_nil, ls_next⟩
theorem zscons (h1 : ZSt X W st t z) (h2 : ZSs X W rest u y) : ZSs X W (st :: rest) (tSeq t u) (zSeq z y) := ⟨pss_cons h1.p h2.p, ls_seq h1.l h2.l⟩
theorem zsone (h1 : ZSt X W st t z) : ZSs X W [st] t z := ⟨pss_one h1.p, h1.l⟩
theorem zsfrz (i : Nat) (h1 : ZSs X W rest t z) : ZSs X W rest t (zFrz i z) := ⟨h1.p, ls_frz h1.l⟩
theorem zsnever : ZSs X W rest tNever zNever := ⟨pss_never, ls_never⟩
theorem zsnev : ZSt X W st tNever zNever := ⟨ps_never, ls_never⟩
theorem zpass : ZSt X W (.Pass pos) tNext zNext := ⟨ps_pass, ls_next⟩
theorem zbrk : ZSt X W (.Break pos) tBreak zBrk := ⟨ps_break, ls_brk⟩
theorem zcnt : ZSt X W (.Continue pos) tCont zCnt := ⟨ps_continue, ls_cnt⟩
theorem zexpr (h : ZE X W e te ze) (hs : swapsWith e none pos.line X.env = pure false := by rfl) : ZSt X W (.Expr e pos) (tDrop te) (zDrop ze) := ⟨ps_expr h.p hs, ls_drop h.l⟩
theorem zret (h : ZE X W e te ze) : ZSt X W (.Return (some e) pos) (tRet te) (zRet ze) := ⟨ps_ret h.p, ls_ret h.l⟩
theorem zretN : ZSt X W (.Return none pos) tRetN zRetN := ⟨ps_retN, ls_retN⟩
theorem zif (hc : ZTe X W c tt zt) (h1 : ZSs X W a t z) (h2 : ZSs X W b u y) : ZSt X W (.If c a b pos) (tIfS tt t u) (zIfS zt z y) := ⟨ps_if hc.p h1.p h2.p, ls_if hc.l h1.l h2.l⟩
theorem zset (i : Nat) (nd : X.N.Nodup) (h : ZE X W e te ze) (hi : X.N[i]? = some x := by rfl) (hx : Loc X.env.scope x := by first | exact Or.inl rfl | exact Or.inr rfl) (hs : swapsWith e (some (.Name x pos')) pos.line X.env = pure false := by rfl)
    (hf : X.fn x = true ∨ X.env.scope.names.lookup x = some .local := by first | exact .inl rfl | exact .inr rfl | assumption) : ZSt X W (.Assign [.Name x pos'] e pos) (tAsg te (gName i)) (zAsg ze (zgName i)) := ⟨ps_set nd hi hx h.p hs hf, ls_asg h.l lg_name⟩
theorem zasg {tg : Expr} (he : ZE X W e te ze) (hg : ZPg X tg g zg) (hs : swapsWithSole [tg] e pos.line X.env = pure false := by rfl) (hw : swappedStores [tg] e X.env = pure none := by rfl) (h1 : (assignEach [tg] X.env).map (·.2) = [assign tg X.env] := by rfl) :
    ZSt X W (.Assign [tg] e pos) (tAsg te g) (zAsg ze zg) := ⟨ps_asg he.p hg.p hs hw h1, ls_asg he.l hg.l⟩
theorem zaugA (i : Nat) (nd : X.N.Nodup) (h : ZE X W e te ze) (hi : X.N[i]? = some x := by rfl) (hx : Loc X.env.scope x := by first | exact Or.inl rfl | exact Or.inr rfl) (hf : X.fn x = true ∨ X.env.scope.names.lookup x = some .local := by first | exact .inl rfl | exact .inr rfl | assumption) :
    ZSt X W (.AugAssign (.Name x pos') .Add e pos) (tAug i te (ipI fun i j => i + j)) (zAugI i ze fun i j => i + j) := ⟨ps_aug nd hi hx h.p ip_add hf, ls_aug h.l⟩
end

/-! ### while -/
def zWhileN (c : ZB) (b : ZS) (D : ZEnds) : Nat → Sl → Mu → Prop
  | 0, _, _ => False
  | n + 1, ρ, μ => c ρ μ (fun k μ1 => match k with
    | true => b { D with nx := zWhileN c b D n, ct := zWhileN c b D n, bk := D.nx } ρ μ1
    | false => D.nx ρ μ1) (fun r μ1 => D.ex r ρ μ1)
def zWhile (c : ZB) (b : ZS) : ZS := fun D ρ μ => ∃ n, zWhileN c b D n ρ μ
section
variable {K : PySem.W.Frag} {W : WX} {t : TS} {z : ZS} {tt : TT} {zt : ZB}
theorem ls_while (hc : LT K W tt zt) (h1 : LS K W t z) : LS K W (tWhile tt t) (zWhile zt z) := fun x σ H ρ μ D D' I c h e => by
  obtain ⟨n, h⟩ := h
  refine ⟨fun m σ' H' => ∃ ρ' μ', Grow H μ H' μ' x ∧ ZInv K σ' H' ρ' μ' x ∧ zWhileN zt z D m ρ' μ', ⟨n, ρ, μ, Grow.refl, I, h⟩, ?_⟩
  rintro m σ' H' ⟨ρ', μ', g, I', h'⟩
  cases m with
  | zero => exact h'.elim
  | succ m =>
    refine hc x σ' H' ρ' μ' _ D.ex _ I' (c.grow g) h' fun b H1 μ1 g1 z1 q => ?_
    cases b with
    | true =>
      refine iteT ⟨fun σ2 H2 => ∃ ρ2 μ2, Grow H μ H2 μ2 x ∧ ZInv K σ2 H2 ρ2 μ2 x ∧ zWhileN zt z D m ρ2 μ2, fun σ2 H2 w => ⟨m, Nat.lt_succ_self m, w⟩, ?_⟩
      refine h1 x σ' H1 ρ' μ1 { D with nx := zWhileN zt z D m, ct := zWhileN zt z D m, bk := D.nx } _ (I'.grow g1 z1) (c.grow (g.trans g1)) q ⟨fun σ2 H2 ρ2 μ2 g2 I2 w => ⟨ρ2, μ2, (g.trans g1).trans g2, I2, w⟩, (e.grow (g.trans g1)).rt, (e.grow (g.trans g1)).nx, fun σ2 H2 ρ2 μ2 g2 I2 w => ⟨ρ2, μ2, (g.trans g1).trans g2, I2, w⟩⟩
    | false => exact iteF ((e.grow (g.trans g1)).nx σ' H1 ρ' μ1 Grow.refl (I'.grow g1 z1) q)
end
section
variable {X : Cx} {W : WX} {k : Nat} {t : TS} {z : ZS} {tt : TT} {zt : ZB} {c : Expr} {body : List Stmt} {pos : Pos}
theorem zwhile (cx : ZC X W k) (hc : ZTe X W c tt zt) (hb : ZSs X W body t z) : ZSt X W (.While c body [] pos) (tWhile tt t) (zWhile zt z) := ⟨ps_while cx.po hc.p hb.p, ls_while hc.l hb.l⟩
end

/-! ### for -/
abbrev ZI := Sl → Mu → (List D → Mu → Prop) → ZX → Prop
/-- the iterator goes through ds, as long as all that stays, stays -/
structure WalkZ (K : PySem.W.Frag) (x : Ax) (J : It) (ds : List D) (H : Hp) (μ : Mu) : Prop where
  go : ∀ i H' μ' x', Fm H μ x H' μ' x' → ZH K H' μ' x' → i < ds.length → J.go i H'
  stop : ∀ H' μ' x', Fm H μ x H' μ' x' → ZH K H' μ' x' → J.stop ds.length H'
  yld : ∀ i H' μ' x' v H'' d, Fm H μ x H' μ' x' → ZH K H' μ' x' → ds[i]? = some d → J.yld i H' v H'' → Grow H' μ' H'' μ' x' ∧ ZH K H'' μ' x' ∧ Rep K H'' μ' x' d v
def LI (K : PySem.W.Frag) (W : WX) (wi : TI) (zi : ZI) : Prop :=
  ∀ (x : Ax) σ H ρ μ q (w : ZW) (R : It → Hp → Prop), ZInv K σ H ρ μ x → WC K W w H μ x → zi ρ μ q (fun r μ' => w r ρ μ') →
    (∀ ds J H' μ', Grow H μ H' μ' x → ZH K H' μ' x → WalkZ K x J ds H' μ' → q ds μ' → R J H') → wi σ H R
structure ZPi (X : Cx) (W : WX) (tg it : Expr) (wi : TI) (zi : ZI) : Prop where
  p : PI X tg it wi
  l : LI X.K W wi zi
def zForL (g : ZG) (b : ZS) (N : ZEnds) : List D → Sl → Mu → Prop
  | [], ρ, μ => N.nx ρ μ
  | d :: ds, ρ, μ => g d ρ μ fun ρ2 μ2 => b { N with nx := zForL g b N ds, ct := zForL g b N ds, bk := N.nx } ρ2 μ2
def zFor (zi : ZI) (g : ZG) (b : ZS) : ZS := fun D ρ μ => zi ρ μ (fun ds μ1 => zForL g b D ds ρ μ1) (fun r μ1 => D.ex r ρ μ1)
section
variable {K : PySem.W.Frag} {W : WX} {t : TS} {z : ZS} {wi : TI} {zi : ZI} {g : TG} {zg : ZG}
theorem ls_for (hi : LI K W wi zi) (hg : LG K g zg) (hb : LS K W t z) : LS K W (tFor wi g t) (zFor zi zg z) := fun x σ H ρ μ D D' I c h e => by
  refine hi x σ H ρ μ _ D.ex _ I c h fun ds J H1 μ1 g1 z1 wk h1 => ?_
  refine ⟨fun i m σ' H' => m = ds.length - i ∧ i ≤ ds.length ∧ ∃ ρ' μ', Grow H1 μ1 H' μ' x ∧ ZInv K σ' H' ρ' μ' x ∧ zForL zg z D (ds.drop i) ρ' μ', ⟨ds.length, by simp, Nat.zero_le _, ρ, μ1, Grow.refl, I.grow g1 z1, h1⟩, ?_⟩
  rintro i m σ' H' ⟨rfl, hi, ρ', μ', g2, I2, h2⟩
  by_cases hlt : i < ds.length
  · refine .inr ⟨wk.go i H' μ' x g2.fz I2.zh hlt, fun σ3 H3 => ∃ ρ3 μ3, Grow H1 μ1 H3 μ3 x ∧ ZInv K σ3 H3 ρ3 μ3 x ∧ zForL zg z D (ds.drop (i + 1)) ρ3 μ3, fun σ3 H3 w => ⟨ds.length - (i + 1), by omega, rfl, hlt, w⟩, fun v H'' y => ?_⟩
    rw [List.drop_eq_getElem_cons hlt] at h2
    obtain ⟨g3, z3, r3⟩ := wk.yld i H' μ' x v H'' ds[i] g2.fz I2.zh (List.getElem?_eq_getElem hlt) y
    refine hg x _ v σ' H'' ρ' μ' _ _ (I2.grow g3 z3) r3 h2 fun σ4 H4 ρ4 μ4 g4 I4 h4 => ?_
    have g5 : Grow H1 μ1 H4 μ4 x := g2.trans (g3.trans g4)
    have g6 := g1.trans g5
    refine hb x σ4 H4 ρ4 μ4 { D with nx := zForL zg z D (ds.drop (i + 1)), ct := zForL zg z D (ds.drop (i + 1)), bk := D.nx } _ I4 (c.grow g6) h4 ⟨fun σ5 H5 ρ5 μ5 g I5 w => ⟨ρ5, μ5, g5.trans g, I5, w⟩, (e.grow g6).rt, (e.grow g6).nx, fun σ5 H5 ρ5 μ5 g I5 w => ⟨ρ5, μ5, g5.trans g, I5, w⟩⟩
  · have ei : i = ds.length := by omega
    subst ei
    rw [List.drop_length] at h2
    exact .inl ⟨wk.stop H' μ' x g2.fz I2.zh, (e.grow (g1.trans g2)).nx σ' H' ρ' μ' Grow.refl I2 h2⟩
end
section
variable {X : Cx} {W : WX} {k : Nat} {t : TS} {z : ZS} {wi : TI} {zi : ZI} {g : TG} {zg : ZG} {tg it : Expr} {body : List Stmt} {pos : Pos}
theorem zfor (cx : ZC X W k) (hi : ZPi X W tg it wi zi) (hg : ZPg X tg g zg) (hb : ZSs X W body t z) (hs : ∀ x, foldedSetIterable it X.env x = pure x := by intro _; rfl) : ZSt X W (.For tg it body [] pos) (tFor wi g t) (zFor zi zg z) :=
  ⟨ps_for cx.po cx.calm hi.p hg.p hb.p hs, ls_for hi.l hg.l hb.l⟩
end

/-! ### what a for walks -/
section
variable {K : PySem.W.Frag} {x : Ax} {H : Hp} {μ : Mu} {ds : List D} {vs : List V} {a b : Addr}
/-- a list that stays -/
def fzlOf : D → Option (List D)
  | .lst ds => some ds
  | .klst ds => some ds
  | _ => none
theorem fzl_of {d : D} {v : V} (r : Rep K H μ x d v) (h : fzlOf d = some ds) : ∃ a vs, v = .ref a ∧ (Fz H μ x a (.lst vs) ∨ KL K a vs) ∧ RepL K H μ x ds vs := by
  cases d with
  | lst es => cases h; simp only [Rep] at r; obtain ⟨a, vs, e, q, l⟩ := r; exact ⟨a, vs, e, .inl q, l⟩
  | klst es => cases h; simpa only [Rep] using r
  | _ => cases h
theorem fzl_keep {H' : Hp} {μ' : Mu} {x' : Ax} (h : Fz H μ x a (.lst vs) ∨ KL K a vs) (g : Fm H μ x H' μ' x') : SqL K H' a vs := h.imp (fun q => (g _ _ q).rd) id
theorem fzt_keep {H' : Hp} {μ' : Mu} {x' : Ax} (h : Fz H μ x a (.tup vs) ∨ KT' K a vs) (g : Fm H μ x H' μ' x') : SqT K H' a vs := h.imp (fun q => (g _ _ q).rd) id
theorem walkz_list (h : Fz H μ x a (.lst vs) ∨ KL K a vs) (l : RepL K H μ x ds vs) : WalkZ K x (Itl K a) ds H μ := by
  refine ⟨fun i H' μ' x' g z hi => walk_list.goes i H' (by rw [← l.length]; exact hi) (fzl_keep h g), fun H' μ' x' g z => by rw [l.length]; exact walk_list.stops H' (fzl_keep h g), fun i H' μ' x' v H'' d g z e y => ?_⟩
  obtain ⟨v', e1, r⟩ := l.get e
  obtain ⟨rfl, e2⟩ := walk_list.yields i H' v H'' (List.getElem?_eq_some_iff.mp e1).1 (fzl_keep h g) y
  rw [e1] at e2
  cases e2
  exact ⟨Grow.refl, z, r.mo g⟩
theorem walkz_tup (h : Fz H μ x a (.tup vs) ∨ KT' K a vs) (l : RepL K H μ x ds vs) : WalkZ K x (Itt K a) ds H μ := by
  refine ⟨fun i H' μ' x' g z hi => walk_tup.goes i H' (by rw [← l.length]; exact hi) (fzt_keep h g), fun H' μ' x' g z => by rw [l.length]; exact walk_tup.stops H' (fzt_keep h g), fun i H' μ' x' v H'' d g z e y => ?_⟩
  obtain ⟨v', e1, r⟩ := l.get e
  obtain ⟨rfl, e2⟩ := walk_tup.yields i H' v H'' (List.getElem?_eq_some_iff.mp e1).1 (fzt_keep h g) y
  rw [e1] at e2
  cases e2
  exact ⟨Grow.refl, z, r.mo g⟩
theorem walkz_range {lo : Int} {n : Nat} : WalkZ K x (Itr lo n) ((List.range n).map fun (i : Nat) => D.int (lo + i)) H μ := by
  have hl : ((List.range n).map fun (i : Nat) => D.int (lo + i)).length = n := by simp
  refine ⟨fun i H' μ' x' g z hi => walk_range.goes i H' (by rw [hl] at hi; exact hi) trivial, fun H' μ' x' g z => by rw [hl]; exact walk_range.stops H' trivial, fun i H' μ' x' v H'' d g z e y => ?_⟩
  have hi : i < n := by have := (List.getElem?_eq_some_iff.mp e).1; rw [hl] at this; exact this
  obtain ⟨rfl, rfl⟩ := walk_range.yields i H' v H'' hi trivial y
  rw [List.getElem?_map, List.getElem?_range hi] at e
  cases e
  exact ⟨Grow.refl, z, rep_int⟩
theorem walkz_str {s : Str} : WalkZ K x (Its s) (s.cps.toList.map fun c => D.str ⟨#[c]⟩) H μ := by
  have hl : (s.cps.toList.map fun c => D.str ⟨#[c]⟩).length = s.cps.size := by simp
  refine ⟨fun i H' μ' x' g z hi => walk_str.goes i H' (by rw [hl] at hi; exact hi) trivial, fun H' μ' x' g z => by rw [hl]; exact walk_str.stops H' trivial, fun i H' μ' x' v H'' d g z e y => ?_⟩
  have hi : i < s.cps.size := by have := (List.getElem?_eq_some_iff.mp e).1; rw [hl] at this; exact this
  obtain ⟨rfl, c, e1, rfl⟩ := walk_str.yields i H' v H'' hi trivial y
  rw [List.getElem?_map, Array.getElem?_toList, e1] at e
  cases e
  exact ⟨Grow.refl, z, rep_str⟩
/-- pairs that are made at each turn -/
theorem walkz_pair {J : It} {n : Nat} {G : Hp → Prop} {f g : Nat → Option V} {as bs : List D} (wk : Walk J n G (YPair f g)) (hG : ∀ H' μ' x', Fm H μ x H' μ' x' → G H') (ha : as.length = n) (hb : bs.length = n)
    (hf : ∀ i d v, as[i]? = some d → f i = some v → Rep K H μ x d v) (hg : ∀ i d v, bs[i]? = some d → g i = some v → Rep K H μ x d v) : WalkZ K x J (List.zipWith (fun a b => D.tup [a, b]) as bs) H μ := by
  have hl : (List.zipWith (fun a b => D.tup [a, b]) as bs).length = n := by simp [ha, hb]
  refine ⟨fun i H' μ' x' g z hi => wk.goes i H' (by rw [hl] at hi; exact hi) (hG H' μ' x' g), fun H' μ' x' g z => by rw [hl]; exact wk.stops H' (hG H' μ' x' g), fun i H' μ' x' v H'' d gr z e y => ?_⟩
  have hi : i < n := by have := (List.getElem?_eq_some_iff.mp e).1; rw [hl] at this; exact this
  obtain ⟨T, v1, v2, rfl, hT, rfl, e1, e2⟩ := wk.yields i H' v H'' hi (hG H' μ' x' gr) y
  rw [List.getElem?_zipWith] at e
  have ea : as[i]? = some as[i] := List.getElem?_eq_getElem (by omega)
  have eb : bs[i]? = some bs[i] := List.getElem?_eq_getElem (by omega)
  rw [ea, eb] at e
  cases e
  have r1 := (hf i _ v1 ea e1).mo gr
  have r2 := (hg i _ v2 eb e2).mo gr
  refine ⟨z.gnew hT, z.new hT, ?_⟩
  simp only [Rep]
  refine ⟨T, [v1, v2], rfl, .inl (Fz.new z hT rfl), ?_⟩
  simp only [RepL]
  exact ⟨v1, [v2], rfl, r1.mono (z.gnew hT), v2, [], rfl, r2.mono (z.gnew hT), rfl⟩
end
/-- a list or a tuple that stays; a text -/
def itOf (d : D) : Option (List D) := match d with
  | .lst ds => some ds
  | .klst ds => some ds
  | .tup ds => some ds
  | .str s => some (s.cps.toList.map fun c => D.str ⟨#[c]⟩)
  | _ => none
def ziSeq (z : ZT) : ZI := fun ρ μ q e => z ρ μ (fun d μ1 => match itOf d with
  | some ds => q ds μ1
  | none => False) e
def ziRng1 (z : ZA) : ZI := fun ρ μ q e => z ρ μ (fun ds μ1 => match ds with
  | [.int j] => -(2 ^ 62) ≤ j ∧ j < 2 ^ 62 ∧ q ((List.range j.toNat).map fun (i : Nat) => D.int (0 + i)) μ1
  | _ => False) e
def ziRng2 (z : ZA) : ZI := fun ρ μ q e => z ρ μ (fun ds μ1 => match ds with
  | [.int i, .int j] => (-(2 ^ 62) ≤ i ∧ i < 2 ^ 62 ∧ -(2 ^ 62) ≤ j ∧ j < 2 ^ 62) ∧ q ((List.range (j - i).toNat).map fun (n : Nat) => D.int (i + n)) μ1
  | _ => False) e
def ziEnum (z : ZA) : ZI := fun ρ μ q e => z ρ μ (fun ds μ1 => match ds with
  | [d] => match fzlOf d with
    | some es => q (List.zipWith (fun a b => D.tup [a, b]) ((List.range es.length).map fun (i : Nat) => D.int i) es) μ1
    | none => False
  | _ => False) e
def ziZip (z : ZA) : ZI := fun ρ μ q e => z ρ μ (fun ds μ1 => match ds with
  | [d, d'] => match fzlOf d, fzlOf d' with
    | some es, some fs => q (List.zipWith (fun a b => D.tup [a, b]) (es.take (min es.length fs.length)) (fs.take (min es.length fs.length))) μ1
    | _, _ => False
  | _ => False) e
/-- a list, a tuple or a text -/
def iSeq (K : PySem.W.Frag) (tl : TE) : TI := fun σ H R => tl σ H fun x H1 => (∃ a, x = .ref a ∧ (∃ xs, SqL K H1 a xs) ∧ R (Itl K a) H1) ∨ (∃ a, x = .ref a ∧ (∃ xs, SqT K H1 a xs) ∧ R (Itt K a) H1) ∨ ∃ s, x = .str s ∧ R (Its s) H1
section
variable {X : Cx} {W : WX} {tg e e2 : Expr} {te : TE} {ze : ZT} {tas : TA} {zas : ZA} {p pos : Pos}
open PySem.Spec PyProof.Rows in
theorem pi_seq (he : PE X e te) : PI X tg e (iSeq X.K te) := by
  refine ⟨fun pins s σ H R I h => ?_⟩
  refine thn (he.run pins s σ H _ I h) fun v s1 ⟨x, H1, I1, r1, q1⟩ => ?_
  rcases q1 with ⟨a, rfl, ⟨xs, hq⟩, q⟩ | ⟨a, rfl, ⟨xs, hq⟩, q⟩ | ⟨z, rfl, q⟩
  · cases r1
    obtain ⟨its, rv, pl, hz⟩ := I1.list hq
    refine wpAny_pyIter_list pl.isList ?_
    refine ⟨s1.heap.objs.size, [s1.heap.objs.size], _, _, H1, rfl, I1.kept (t' := s1.toks) fun b o e => Heap.get?_push_of_some _ e, turn_list a _, ⟨_, Heap.get?_push_size _ rfl, rfl, rfl⟩, fun b hb => ?_, q⟩
    have e : b = s1.heap.objs.size := by simpa using hb
    subst e
    exact I1.fpOk (Nat.le_refl _) (I1.hok.fresh (Nat.le_refl _))
  · cases r1
    obtain ⟨its, rv, pl, hz⟩ := I1.tuple hq
    refine wpAny_pyIter_tuple (show s1.heap.IsTuple a its.toArray from pl) ?_
    refine ⟨s1.heap.objs.size, [s1.heap.objs.size], _, _, H1, rfl, I1.kept (t' := s1.toks) fun b o e => Heap.get?_push_of_some _ e, turn_tuple a _, ⟨_, Heap.get?_push_size _ rfl, rfl, rfl⟩, fun b hb => ?_, q⟩
    have e : b = s1.heap.objs.size := by simpa using hb
    subst e
    exact I1.fpOk (Nat.le_refl _) (I1.hok.fresh (Nat.le_refl _))
  · obtain ⟨t, rfl⟩ := r1
    cases ha : z.cps.all (· < 128)
    · exact wpAny_pyIter_wide ha (pi_one (tk := s1.toks) I1 _ (turn_str _ z t "str_iterator" (.inr rfl)) ⟨_, Heap.get?_push_size _ rfl, rfl, rfl⟩ q)
    · exact wpAny_pyIter_ascii ha (pi_one (tk := s1.toks) I1 _ (turn_str _ z t "str_ascii_iterator" (.inl rfl)) ⟨_, Heap.get?_push_size _ rfl, rfl, rfl⟩ q)
theorem li_seq {K : PySem.W.Frag} (he : LE K W te ze) : LI K W (iSeq K te) (ziSeq ze) := fun x σ H ρ μ q w R I c h k => by
  refine he x σ H ρ μ _ w _ I c h fun d v H1 μ1 g1 z1 r1 h1 => ?_
  split at h1
  · rename_i ds e
    cases d with
    | lst es =>
      cases e
      obtain ⟨a, vs, rfl, q1, l⟩ := fzl_of r1 (ds := ds) rfl
      exact .inl ⟨a, rfl, ⟨vs, fzl_keep q1 (Grow.refl (x := x)).fz⟩, k _ _ H1 μ1 g1 z1 (walkz_list q1 l) h1⟩
    | klst es =>
      cases e
      obtain ⟨a, vs, rfl, q1, l⟩ := fzl_of r1 (ds := ds) rfl
      exact .inl ⟨a, rfl, ⟨vs, fzl_keep q1 (Grow.refl (x := x)).fz⟩, k _ _ H1 μ1 g1 z1 (walkz_list q1 l) h1⟩
    | tup es =>
      cases e
      simp only [Rep] at r1
      obtain ⟨a, vs, rfl, q1, l⟩ := r1
      exact .inr (.inl ⟨a, rfl, ⟨vs, fzt_keep q1 (Grow.refl (x := x)).fz⟩, k _ _ H1 μ1 g1 z1 (walkz_tup q1 l) h1⟩)
    | str s =>
      cases e
      rw [r1.str]
      exact .inr (.inr ⟨s, rfl, k _ _ H1 μ1 g1 z1 walkz_str h1⟩)
    | _ => cases e
  · exact h1.elim
theorem ziseq (he : ZE X W e te ze) : ZPi X W tg e (iSeq X.K te) (ziSeq ze) := ⟨pi_seq he.p, li_seq he.l⟩
theorem zirng1 {n : Nat} (hm : X.mg "range" = none) (ha : ZAr X W n [e] tas zas) (hg : Gl X "range" := by rfl) (hs : starEach [e] X.env = [(false, eval e X.env)] := by rfl) : ZPi X W tg (.Call (.Name "range" p) [e] [] pos) (iRng1 tas) (ziRng1 zas) := ⟨pi_range1 hg hm ha.p hs, fun x σ H ρ μ q w R I c h k => by
  refine ha.l x σ H ρ μ _ w _ I c h fun ds vs H1 μ1 g1 z1 r1 l1 h1 => ?_
  split at h1
  · obtain ⟨v, rfl, r⟩ := repl1 r1
    exact ⟨_, by rw [r.int], h1.1, h1.2.1, k _ _ H1 μ1 g1 z1 walkz_range h1.2.2⟩
  · exact h1.elim⟩
theorem zirng2 {n : Nat} (hm : X.mg "range" = none) (ha : ZAr X W n [e, e2] tas zas) (hg : Gl X "range" := by rfl) (hs : starEach [e, e2] X.env = [(false, eval e X.env), (false, eval e2 X.env)] := by rfl) (hs2 : starEach [e2] X.env = [(false, eval e2 X.env)] := by rfl) :
    ZPi X W tg (.Call (.Name "range" p) [e, e2] [] pos) (iRng2 tas) (ziRng2 zas) := ⟨pi_range2 hg hm ha.p hs hs2, fun x σ H ρ μ q w R I c h k => by
  refine ha.l x σ H ρ μ _ w _ I c h fun ds vs H1 μ1 g1 z1 r1 l1 h1 => ?_
  split at h1
  · obtain ⟨v, u, rfl, r, r'⟩ := repl2 r1
    exact ⟨_, _, by rw [r.int, r'.int], h1.1, k _ _ H1 μ1 g1 z1 walkz_range h1.2⟩
  · exact h1.elim⟩
end
end Z

set_option maxRecDepth 100000
set_option maxHeartbeats 4000000
namespace Z
open PySem L2

/-! ### methods of lists and texts -/
def isL (d : D) (μ : Mu) : Bool := (lstOf d μ).isSome
def isS (d : D) (_ : Mu) : Bool := match d with
  | .str _ => true
  | _ => false
def zBM (ty : D → Mu → Bool) (f : FM) (za : ZT) (zas : ZA) : ZT := fun ρ μ q e => za ρ μ (fun d μ1 => match ty d μ1 with
  | true => zas ρ μ1 (fun ds μ2 => f d ds μ2 q) e
  | false => False) e
def zBM0 (ty : D → Mu → Bool) (f : FM) (za : ZT) : ZT := fun ρ μ q e => za ρ μ (fun d μ1 => match ty d μ1 with
  | true => f d [] μ1 q
  | false => False) e
def TyF (K : PySem.W.Frag) (T : String) (ty : D → Mu → Bool) : Prop := ∀ x H μ d v, ZH K H μ x → Rep K H μ x d v → ty d μ = true → tyV K T v H
theorem tyf_l {K : PySem.W.Frag} : TyF K "list" isL := fun x H μ d v z r h => by
  unfold isL at h
  cases e : lstOf d μ with
  | none => rw [e] at h; cases h
  | some ds =>
    obtain ⟨a, vs, rfl, q, _⟩ := lst_of z r e
    exact .inl ⟨rfl, vs, q⟩
theorem tyf_s {K : PySem.W.Frag} : TyF K "str" isS := fun x H μ d v z r h => by
  unfold isS at h
  split at h
  · rw [r.str]; rfl
  · cases h
section
variable {X : Cx} {W : WX} {T id : String} {name : Str} {apos cpos : Pos} {o e : Expr} {es : List Expr} {n : Nat} {to : TE} {zo : ZT} {tas : TA} {zas : ZA} {r : V → List V → Hp → VK → Prop} {f : FM} {ty : D → Mu → Bool}
theorem zbm (pa : PlainAttrs T) (slot : Slot T name id) (hty : typeOf (.builtin id) = pure (.type "method_descriptor")) (hm : MtR X id r) (hl : LfM X.K r f) (ht : TyF X.K T ty) (ho : ZE X W o to zo) (ha : ZAr X W n (e :: es) tas zas) (hbase : attributeBase o name X.env (eval o X.env) = eval o X.env := by rfl)
    (hfew : ((backTo cpos (starEach (e :: es) X.env)).all (fun x => !x.1) && (backToKw cpos (keywordEach [] X.env)).all (fun x => x.1.isSome) && decide ((e :: es).length + ([] : List Keyword).length + (if ([] : List Keyword).isEmpty then 0 else 1) < 30)) = true := by rfl)
    (he : starEach (e :: es) X.env = (false, eval e X.env) :: starEach es X.env := by rfl) (hpl : (backTo cpos (starEach es X.env)).any (·.1) = false := by rfl) (hline : (apos.endLine == cpos.line) = true := by rfl) :
    ZE X W (.Call (.Attribute o name apos) (e :: es) [] cpos) (tBM X.K T r to tas) (zBM ty f zo zas) := ⟨pe_bm pa slot hty hm ho.p ha.p hbase hfew hline he hpl, fun x σ H ρ μ q w Q I c h k => by
  refine ho.l x σ H ρ μ _ w _ I c h fun d v H1 μ1 g1 z1 r1 h1 => ?_
  split at h1
  · rename_i e1
    refine ⟨ht x H1 μ1 d v z1 r1 e1, ?_⟩
    refine ha.l x σ H1 ρ μ1 _ w _ (I.grow g1 z1) (c.grow g1) h1 fun ds vs H2 μ2 g2 z2 r2 l2 h2 => ?_
    exact hl x H2 μ2 d v ds vs q Q z2 (r1.mono g2) r2 h2 fun d3 v3 H3 μ3 g3 => k d3 v3 H3 μ3 (g1.trans (g2.trans g3))
  · exact h1.elim⟩
theorem zbm0 (pa : PlainAttrs T) (slot : Slot T name id) (hty : typeOf (.builtin id) = pure (.type "method_descriptor")) (hm : MtR X id r) (hl : LfM X.K r f) (ht : TyF X.K T ty) (ho : ZE X W o to zo) (hbase : attributeBase o name X.env (eval o X.env) = eval o X.env := by rfl)
    (hline : (apos.endLine == cpos.line) = true := by rfl) :
    ZE X W (.Call (.Attribute o name apos) [] [] cpos) (tBM0 X.K T r to) (zBM0 ty f zo) := ⟨pe_bm0 pa slot hty hm ho.p hbase hline, fun x σ H ρ μ q w Q I c h k => by
  refine ho.l x σ H ρ μ _ w _ I c h fun d v H1 μ1 g1 z1 r1 h1 => ?_
  split at h1
  · rename_i e1
    exact ⟨ht x H1 μ1 d v z1 r1 e1, hl x H1 μ1 d v [] [] q Q z1 r1 (by simp [RepL]) h1 fun d3 v3 H3 μ3 g3 => k d3 v3 H3 μ3 (g1.trans g3)⟩
  · exact h1.elim⟩
end
def zAppend : FM := fun d ds μ q => match d with
  | .ref a => match μ a with
    | some (.lst xs) => match ds with
      | [y] => xs.length < sizeLine ∧ q .non (updM μ a (.lst (xs ++ [y])))
      | _ => False
    | _ => False
  | _ => False
def zPop : FM := fun d ds μ q => match d with
  | .ref a => match μ a with
    | some (.lst xs) => match ds with
      | [] => match xs[xs.length - 1]? with
        | some y => q y (updM μ a (.lst xs.dropLast))
        | none => False
      | [.int i] => match ixN xs.length i with
        | some k => match xs[k]? with
          | some y => -(2 ^ 63) ≤ i ∧ i < 2 ^ 63 ∧ q y (updM μ a (.lst (xs.eraseIdx k)))
          | none => False
        | none => False
      | _ => False
    | _ => False
  | _ => False
def zInsert : FM := fun d ds μ q => match d with
  | .ref a => match μ a with
    | some (.lst xs) => match ds with
      | [.int i, y] => xs.length < sizeLine ∧ 0 ≤ i ∧ i < 2 ^ 63 ∧ q .non (updM μ a (.lst (xs.take i.toNat ++ [y] ++ xs.drop i.toNat)))
      | _ => False
    | _ => False
  | _ => False
def zExtend : FM := fun d ds μ q => match d with
  | .ref a => match μ a with
    | some (.lst xs) => match ds with
      | [e] => match rlstOf e μ with
        | some ys => xs.length + ys.length ≤ sizeLine ∧ q .non (updM μ a (.lst (xs ++ ys)))
        | none => False
      | _ => False
    | _ => False
  | _ => False
def strsOf : List D → Option (List Str)
  | [] => some []
  | .str s :: ds => match strsOf ds with
    | some is => some (s :: is)
    | none => none
  | _ :: _ => none
section
variable {K : PySem.W.Frag} {X : Cx} {H : Hp} {μ : Mu} {x : Ax}
theorem own_lst {a : Addr} {ds : List D} (z : ZH K H μ x) (h : μ a = some (.lst ds)) : ∃ vs, H a = some (.lst vs) ∧ RepL K H μ x ds vs := by
  have w := z.own a _ h
  simpa only [Own] using w
theorem own_dct {a : Addr} {ds : List (Key × D)} (z : ZH K H μ x) (h : μ a = some (.dct ds)) : ∃ vs, H a = some (.dK vs) ∧ RepK K H μ x ds vs := by
  have w := z.own a _ h
  simpa only [Own] using w
theorem own_ins {a C : Addr} {ds : List (Str × D)} (z : ZH K H μ x) (h : μ a = some (.ins C ds)) : ∃ dx vs, H a = some (.ins C dx vs) ∧ RepF K H μ x ds vs := by
  have w := z.own a _ h
  simpa only [Own] using w
/-- a list is written -/
theorem put_lst {a : Addr} {ds es : List D} {vs us : List V} {q : ZQ} {Q : VK} {d : D} {v : V} (z : ZH K H μ x) (h : μ a = some (.lst ds)) (l : RepL K H μ x es us) (r : Rep K H μ x d v) (p : Post K H μ x q Q) (hq : q d (updM μ a (.lst es))) : Q v (upd H a (.lst us)) :=
  p d v _ _ (z.gwrite h) (z.write h (by simp only [Own]; exact ⟨us, upd_same, RepL.mono (z.gwrite h) _ _ l⟩)) (r.mono (z.gwrite h)) hq
theorem lf_append : LfM K rAppend zAppend := fun x H μ d v ds vs q Q z r l h p => by
  unfold zAppend at h
  split at h
  · rename_i a
    split at h
    · rename_i xs e
      split at h
      · rename_i y
        obtain ⟨us, e1, l1⟩ := own_lst z e
        obtain ⟨u, rfl, r1⟩ := repl1 l
        exact ⟨a, us, u, r.ref, rfl, e1, by rw [← l1.length]; exact h.1, put_lst (vs := us) z e (l1.append (RepL.one r1)) rep_non p h.2⟩
      · exact h.elim
    · exact h.elim
  · exact h.elim
def rPopAll : V → List V → Hp → VK → Prop := fun x vs H Q => rPop x vs H Q ∨ rPopAt x vs H Q
theorem mt_popAll : MtR X "list.pop" rPopAll := MtR.or (r := rPop) (r' := rPopAt) mt_pop mt_popAt
theorem lf_pop : LfM K rPopAll zPop := fun x H μ d v ds vs q Q z r l h p => by
  unfold zPop at h
  split at h
  · rename_i a
    split at h
    · rename_i xs e
      obtain ⟨us, e1, l1⟩ := own_lst z e
      split at h
      · split at h
        · rename_i y ey
          obtain ⟨u, e2, r2⟩ := l1.get ey
          simp only [RepL] at l
          refine .inl ⟨a, us, u, r.ref, l, e1, by rw [← l1.length]; exact e2, put_lst (vs := us) z e l1.dropLast r2 p h⟩
        · exact h.elim
      · split at h
        · rename_i k ek
          split at h
          · rename_i y ey
            obtain ⟨w, rfl, rw'⟩ := repl1 l
            obtain ⟨u, e2, r2⟩ := l1.get ey
            exact .inr ⟨a, us, _, k, u, r.ref, by rw [rw'.int], e1, h.1, h.2.1, by rw [← l1.length]; exact (ixN_seq ek).1, e2, put_lst (vs := us) z e (l1.eraseIdx k) r2 p h.2.2⟩
          · exact h.elim
        · exact h.elim
      · exact h.elim
    · exact h.elim
  · exact h.elim
def rInsert : V → List V → Hp → VK → Prop := fun x vs H Q => ∃ (l : Addr) (xs : List V) (i : Int) (y : V), x = .ref l ∧ vs = [.int i, y] ∧ H l = some (.lst xs) ∧ xs.length < sizeLine ∧ 0 ≤ i ∧ i < 2 ^ 63 ∧ Q .non (upd H l (.lst (xs.take i.toNat ++ [y] ++ xs.drop i.toNat)))
theorem lf_insert : LfM K rInsert zInsert := fun x H μ d v ds vs q Q z r l h p => by
  unfold zInsert at h
  split at h
  · rename_i a
    split at h
    · rename_i xs e
      split at h
      · obtain ⟨us, e1, l1⟩ := own_lst z e
        obtain ⟨u, w, rfl, r1, r2⟩ := repl2 l
        rw [r1.int]
        exact ⟨a, us, _, w, r.ref, rfl, e1, by rw [← l1.length]; exact h.1, h.2.1, h.2.2.1, put_lst (vs := us) z e (((l1.take _).append (RepL.one r2)).append (l1.drop _)) rep_non p h.2.2.2⟩
      · exact h.elim
    · exact h.elim
  · exact h.elim

/-! ### texts -/
def zPartition : FM := fun d ds μ q => match d, ds with
  | .str a, [.str b] => (b.length == 0) = false ∧ a.length ≤ sizeLine ∧ q (.tup [.str (Txt.partition a b).1, .str (Txt.partition a b).2.1, .str (Txt.partition a b).2.2]) μ
  | _, _ => False
def zJoin : FM := fun d ds μ q => match d, ds with
  | .str a, [e] => match seqOf e μ with
    | some es => match strsOf es with
      | some ys => (ys.map (·.length)).sum + ys.length * a.length ≤ 16777216 ∧ q (.str (Txt.join a ys)) μ
      | none => False
    | none => False
  | _, _ => False
def zFind : FM := fun d ds μ q => match d, ds with
  | .str a, [.str b, .int i] => q (.int (Txt.find3 a b i)) μ
  | _, _ => False
theorem strs_of : ∀ {ds : List D} {vs : List V} {bs : List Str}, RepL K H μ x ds vs → strsOf ds = some bs → vs = bs.map V.str
  | [], vs, bs, l, h => by simp only [strsOf, Option.some.injEq] at h; subst h; simpa [RepL] using l
  | .str i :: ds, vs, bs, l, h => by
    simp only [RepL] at l
    obtain ⟨v, r, rfl, h1, h2⟩ := l
    simp only [strsOf] at h
    split at h
    · rename_i bs' e2
      cases h
      rw [h1.str, strs_of h2 e2]; rfl
    · cases h
  | .non :: ds, vs, bs, l, h => by simp only [strsOf] at h; cases h
  | .bl _ :: ds, vs, bs, l, h => by simp only [strsOf] at h; cases h
  | .int _ :: ds, vs, bs, l, h => by simp only [strsOf] at h; cases h
  | .lst _ :: ds, vs, bs, l, h => by simp only [strsOf] at h; cases h
  | .klst _ :: ds, vs, bs, l, h => by simp only [strsOf] at h; cases h
  | .tup _ :: ds, vs, bs, l, h => by simp only [strsOf] at h; cases h
  | .dct _ :: ds, vs, bs, l, h => by simp only [strsOf] at h; cases h
  | .ins _ _ :: ds, vs, bs, l, h => by simp only [strsOf] at h; cases h
  | .ref _ :: ds, vs, bs, l, h => by simp only [strsOf] at h; cases h
  | .oth _ :: ds, vs, bs, l, h => by simp only [strsOf] at h; cases h
def rPartition : V → List V → Hp → VK → Prop := fun x xs H Q => ∃ a b, x = .str a ∧ xs = [.str b] ∧ (b.length == 0) = false ∧ a.length ≤ sizeLine ∧
    ∀ p, H p = none → Q (.ref p) (upd H p (.tup [.str (Txt.partition a b).1, .str (Txt.partition a b).2.1, .str (Txt.partition a b).2.2]))
theorem lf_partition : LfM K rPartition zPartition := fun x H μ d v ds vs q Q z r l h p => by
  unfold zPartition at h
  split at h
  · obtain ⟨u, rfl, r1⟩ := repl1 l
    rw [r.str, r1.str]
    exact ⟨_, _, rfl, rfl, h.1, h.2.1, new_tup z (by simp [RepL, Rep]) p h.2.2⟩
  · exact h.elim
def rJoin (K : PySem.W.Frag) : V → List V → Hp → VK → Prop := fun x xs H Q => ∃ a p, ∃ ys : List Str, x = .str a ∧ xs = [.ref p] ∧ (SqL K H p (ys.map V.str) ∨ SqT K H p (ys.map V.str)) ∧
    (ys.map (·.length)).sum + ys.length * a.length ≤ 16777216 ∧ Q (.str (Txt.join a ys)) H
theorem lf_join : LfM K (rJoin K) zJoin := fun x H μ d v ds vs q Q z r l h p => by
  unfold zJoin at h
  split at h
  · obtain ⟨u, rfl, r1⟩ := repl1 l
    split at h
    · rename_i es e1
      split at h
      · rename_i ys e2
        obtain ⟨a, us, rfl, q1, l2⟩ := seq_of z r1 e1
        have e3 := strs_of l2 e2
        subst e3
        exact ⟨_, a, ys, r.str, rfl, q1, h.1, p.here z rep_str h.2⟩
      · exact h.elim
    · exact h.elim
  · exact h.elim
def rFind3 : V → List V → Hp → VK → Prop := fun x xs H Q => ∃ (a b : Str) (i : Int), x = .str a ∧ xs = [.str b, .int i] ∧ Q (.int (Txt.find3 a b i)) H
theorem lf_find : LfM K rFind3 zFind := fun x H μ d v ds vs q Q z r l h p => by
  unfold zFind at h
  split at h
  · obtain ⟨u, w, rfl, r1, r2⟩ := repl2 l
    rw [r.str, r1.str, r2.int]
    exact ⟨_, _, _, rfl, rfl, p.here z rep_int h⟩
  · exact h.elim
def rExtendR : V → List V → Hp → VK → Prop := rExtend
end

/-! ### o[i] = e -/
def putD (kvs : List (Key × D)) (k : Key) (v : D) : List (Key × D) := match kvs with
  | [] => [(k, v)]
  | (j, d) :: r => if j = k then (j, v) :: r else (j, d) :: putD r k v
def zSet (o i v : D) (μ : Mu) (k : Mu → Prop) : Prop := match o with
  | .ref a => match μ a with
    | some (.lst xs) => match i with
      | .int n => match ixN xs.length n with
        | some j => k (updM μ a (.lst (xs.set j v)))
        | none => False
      | _ => False
    | some (.dct kvs) => match keyOf i with
      | some kk => (kvs.map (·.1)).Nodup ∧ kvs.length < sizeLine ∧ k (updM μ a (.dct (putD kvs kk v)))
      | none => False
    | _ => False
  | _ => False
def zSetS (zo zi zv : ZT) : ZS := fun D ρ μ => zv ρ μ (fun v μ1 => zo ρ μ1 (fun o μ2 => zi ρ μ2 (fun i μ3 => zSet o i v μ3 (D.nx ρ)) (fun r μ1 => D.ex r ρ μ1)) (fun r μ1 => D.ex r ρ μ1)) (fun r μ1 => D.ex r ρ μ1)
def rSetAll : V → V → V → Hp → (Hp → Prop) → Prop := fun o i v H Q => rSetL o i v H Q ∨ ∃ a H', o = .ref a ∧ DPut H a i v H' ∧ Q H'
section
variable {X : Cx} {K : PySem.W.Frag} {W : WX} {H : Hp} {μ : Mu} {x : Ax}
theorem set_all (hu : X.A.units + 1 < cLine) : PSet X rSetAll := by
  intro pins s σ H o i v ov iv u Q I ro ri rv h
  rcases h with h | ⟨a, H', rfl, g, q⟩
  · exact set_list pins s σ H o i v ov iv u Q I ro ri rv h
  · obtain rfl : ov = Value.ref a := ro
    exact d_setItem hu I g ri rv fun s4 I4 => ⟨H', I4, q⟩
theorem map_same {α : Type} {f : α → α} : ∀ {l : List α}, (∀ a ∈ l, f a = a) → l.map f = l
  | [], _ => rfl
  | a :: r, h => by rw [List.map_cons, h a List.mem_cons_self, map_same fun b hb => h b (List.mem_cons_of_mem _ hb)]
theorem putD_notmem {k : Key} {d : D} : ∀ {kvs : List (Key × D)}, k ∉ kvs.map (·.1) → putD kvs k d = kvs ++ [(k, d)]
  | [], _ => rfl
  | (j, e) :: r, h => by
    have hj : ¬ j = k := fun q => h (by rw [← q]; exact List.mem_cons_self)
    simp only [putD, if_neg hj, List.cons_append]
    rw [putD_notmem fun q => h (List.mem_cons_of_mem _ q)]
theorem RepK.append : ∀ {kvs ls : List (Key × D)} {us ws : List (Key × V)}, RepK K H μ x kvs us → RepK K H μ x ls ws → RepK K H μ x (kvs ++ ls) (us ++ ws)
  | [], ls, us, ws, h, h' => by simp only [RepK] at h; subst h; exact h'
  | (k, d) :: r, ls, us, ws, h, h' => by
    simp only [RepK] at h
    obtain ⟨v, r', rfl, h1, h2⟩ := h
    show RepK K H μ x ((k, d) :: (r ++ ls)) ((k, v) :: (r' ++ ws))
    simp only [RepK]
    exact ⟨v, r' ++ ws, rfl, h1, h2.append h'⟩
theorem RepK.keys : ∀ {kvs : List (Key × D)} {us : List (Key × V)}, RepK K H μ x kvs us → us.map (·.1) = kvs.map (·.1)
  | [], us, h => by simp only [RepK] at h; subst h; rfl
  | (k, d) :: r, us, h => by
    simp only [RepK] at h
    obtain ⟨v, r', rfl, h1, h2⟩ := h
    simp [RepK.keys h2]
theorem RepK.putMap {k : Key} {d : D} {v : V} (q : Rep K H μ x d v) : ∀ {kvs : List (Key × D)} {us : List (Key × V)}, RepK K H μ x kvs us → (kvs.map (·.1)).Nodup → k ∈ kvs.map (·.1) →
    RepK K H μ x (putD kvs k d) (us.map fun kv => if kv.1 = k then (kv.1, v) else kv)
  | [], us, h, _, hm => by simp at hm
  | (j, e) :: r, us, h, nd, hm => by
    simp only [RepK] at h
    obtain ⟨w, r', rfl, h1, h2⟩ := h
    have nd' := List.nodup_cons.mp nd
    by_cases hj : j = k
    · subst hj
      have e1 : (r'.map fun kv : Key × V => if kv.1 = j then (kv.1, v) else kv) = r' := map_same fun kv hkv => by
        have : kv.1 ≠ j := fun q => nd'.1 (by
          have z : kv.1 ∈ r'.map (·.1) := List.mem_map_of_mem hkv
          rw [h2.keys, q] at z
          exact z)
        exact if_neg this
      unfold putD
      rw [if_pos rfl, List.map_cons, e1]
      simp only [RepK]
      exact ⟨v, r', by simp, q, h2⟩
    · simp only [putD, if_neg hj, List.map_cons, RepK]
      refine ⟨w, _, rfl, h1, RepK.putMap q h2 nd'.2 ?_⟩
      rcases List.mem_cons.mp hm with z | z
      · exact absurd z.symm hj
      · exact z
theorem RepK.put {k : Key} {d : D} {v : V} {kvs : List (Key × D)} {us : List (Key × V)} (h : RepK K H μ x kvs us) (q : Rep K H μ x d v) (nd : (kvs.map (·.1)).Nodup) : RepK K H μ x (putD kvs k d) (putK us k v) := by
  unfold putK
  by_cases hm : k ∈ kvs.map (·.1)
  · rw [if_pos]
    · exact h.putMap q nd hm
    · rw [List.any_eq_true]
      rw [← h.keys] at hm
      obtain ⟨kv, h1, h2⟩ := List.mem_map.mp hm
      exact ⟨kv, h1, decide_eq_true h2⟩
  · rw [if_neg, putD_notmem hm]
    · exact h.append (by simp only [RepK]; exact ⟨v, [], rfl, q, rfl⟩)
    · intro z
      rw [List.any_eq_true] at z
      obtain ⟨kv, h1, h2⟩ := z
      exact hm (by rw [← h.keys, ← of_decide_eq_true h2]; exact List.mem_map_of_mem h1)
theorem lf_set {o i v : D} {vo vi vv : V} {k : Mu → Prop} {Q : Hp → Prop} (z : ZH K H μ x) (ro : Rep K H μ x o vo) (ri : Rep K H μ x i vi) (rv : Rep K H μ x v vv) (h : zSet o i v μ k) (p : ∀ H' μ', Grow H μ H' μ' x → ZH K H' μ' x → k μ' → Q H') : rSetAll vo vi vv H Q := by
  unfold zSet at h
  split at h
  · rename_i a
    split at h
    · rename_i xs e
      obtain ⟨us, e1, l1⟩ := own_lst z e
      split at h
      · split at h
        · rename_i j ej
          refine .inl ⟨a, us, _, j, ro.ref, ri.int, e1, by rw [← l1.length]; exact ej, ?_⟩
          exact p _ _ (z.gwrite e) (z.write e (by simp only [Own]; exact ⟨_, upd_same, RepL.mono (z.gwrite e) _ _ (l1.set j rv)⟩)) h
        · exact h.elim
      · exact h.elim
    · rename_i kvs e
      obtain ⟨us, e1, l1⟩ := own_dct z e
      split at h
      · rename_i kk ek
        obtain ⟨nd, hz, h⟩ := h
        rw [key_of ri ek]
        refine .inr ⟨a, _, ro.ref, DPut.k e1 (by rw [← l1.length]; exact hz), ?_⟩
        exact p _ _ (z.gwrite e) (z.write e (by simp only [Own]; exact ⟨_, upd_same, RepK.mono (z.gwrite e) _ _ (l1.put rv nd)⟩)) h
      · exact h.elim
    · exact h.elim
  · exact h.elim
variable {o i e : Expr} {to ti te : TE} {zo zi ze : ZT} {pos p : Pos} {k : Nat}
theorem zsub (cx : ZC X W k) (ho : ZE X W o to zo) (hi : ZE X W i ti zi) (he : ZE X W e te ze)
    (ha : ∀ v, assign (.Subscript o i p) X.env v = (do let ov ← holding [v] (eval o X.env); let iv ← holding [v, ov] (eval i X.env); standAt p; holding [v, ov, iv] (setItem ov iv v); release [v, ov, iv] []) := by intro _; rfl)
    (hs : swapsWithSole [.Subscript o i p] e pos.line X.env = pure false := by rfl) (hw : swappedStores [.Subscript o i p] e X.env = pure none := by rfl) (h1 : (assignEach [.Subscript o i p] X.env).map (·.2) = [assign (.Subscript o i p) X.env] := by rfl) :
    ZSt X W (.Assign [.Subscript o i p] e pos) (tAsg te (gSub to ti rSetAll)) (zSetS zo zi ze) := ⟨ps_asg he.p (pg_sub ho.p hi.p (set_all cx.hu) ha) hs hw h1, fun x σ H ρ μ D D' I c h en => by
  refine he.l x σ H ρ μ _ D.ex _ I c h fun dv v H1 μ1 g1 z1 r1 h1 => ?_
  refine ho.l x σ H1 ρ μ1 _ D.ex _ (I.grow g1 z1) (c.grow g1) h1 fun d2 v2 H2 μ2 g2 z2 r2 h2 => ?_
  refine hi.l x σ H2 ρ μ2 _ D.ex _ (I.grow (g1.trans g2) z2) (c.grow (g1.trans g2)) h2 fun d3 v3 H3 μ3 g3 z3 r3 h3 => ?_
  have g := g1.trans (g2.trans g3)
  exact lf_set z3 (r2.mono g3) r3 (r1.mono (g2.trans g3)) h3 fun H4 μ4 g4 z4 h4 => en.nx σ H4 ρ μ4 (g.trans g4) (I.grow (g.trans g4) z4) h4⟩
end

/-! ### attributes -/
def lookF (f : Str) : List (Str × D) → Option D
  | [] => none
  | (g, d) :: r => if g = f then some d else lookF f r
def putFD (f : Str) (v : D) : List (Str × D) → List (Str × D)
  | [] => [(f, v)]
  | (g, x) :: r => if g = f then (g, v) :: r else (g, x) :: putFD f v r
def zFld (C : Addr) (f : Str) : F1 := fun d μ q => match insOf d μ with
  | some (C', fs) => C' = C ∧ match lookF f fs with
    | some v => q v μ
    | none => False
  | none => False
section
variable {X : Cx} {K : PySem.W.Frag} {W : WX} {H : Hp} {μ : Mu} {x : Ax} {f : Str}
theorem ins_of {d : D} {v : V} {C : Addr} {fs : List (Str × D)} (z : ZH K H μ x) (r : Rep K H μ x d v) (h : insOf d μ = some (C, fs)) : ∃ a dx gs, v = .ref a ∧ H a = some (.ins C dx gs) ∧ RepF K H μ x fs gs := by
  cases d with
  | ins C' es =>
    have e := Option.some.inj h
    cases e
    simp only [Rep] at r
    obtain ⟨a, dx, gs, e, q, r⟩ := r
    exact ⟨a, dx, gs, e, q.hard rfl, r⟩
  | ref a =>
    simp only [Rep] at r
    simp only [insOf] at h
    split at h
    · rename_i C2 es e
      cases h
      obtain ⟨dx, gs, e1, l⟩ := own_ins z e
      exact ⟨a, dx, gs, r, e1, l⟩
    · cases h
  | _ => cases h
theorem RepF.look {v : D} : ∀ {fs : List (Str × D)} {gs : List (Str × V)}, RepF K H μ x fs gs → lookF f fs = some v → ∃ u, gs.lookup f = some u ∧ Rep K H μ x v u
  | [], gs, h, e => by simp [lookF] at e
  | (g, d) :: r, gs, h, e => by
    simp only [RepF] at h
    obtain ⟨w, r', rfl, h1, h2⟩ := h
    by_cases hg : g = f
    · subst hg
      unfold lookF at e
      rw [if_pos rfl] at e
      cases e
      exact ⟨w, by simp [List.lookup], h1⟩
    · unfold lookF at e
      rw [if_neg hg] at e
      obtain ⟨u, e1, e2⟩ := RepF.look h2 e
      have hb : (f == g) = false := beq_eq_false_iff_ne.mpr (fun q => hg q.symm)
      exact ⟨u, by simp only [List.lookup, hb]; exact e1, e2⟩
theorem RepF.lookNone : ∀ {fs : List (Str × D)} {gs : List (Str × V)}, RepF K H μ x fs gs → lookF f fs = none → gs.lookup f = none
  | [], gs, h, e => by simp only [RepF] at h; subst h; rfl
  | (g, d) :: r, gs, h, e => by
    simp only [RepF] at h
    obtain ⟨w, r', rfl, h1, h2⟩ := h
    unfold lookF at e
    by_cases hg : g = f
    · rw [if_pos hg] at e; cases e
    · rw [if_neg hg] at e
      have hb : (f == g) = false := beq_eq_false_iff_ne.mpr (fun q => hg q.symm)
      simp only [List.lookup, hb]
      exact RepF.lookNone h2 e
theorem RepF.put {d : D} {v : V} (q : Rep K H μ x d v) : ∀ {fs : List (Str × D)} {gs : List (Str × V)}, RepF K H μ x fs gs → RepF K H μ x (putFD f d fs) (putF f v gs)
  | [], gs, h => by simp only [RepF] at h; subst h; simp only [putFD, putF, RepF]; exact ⟨v, [], rfl, q, rfl⟩
  | (g, e) :: r, gs, h => by
    simp only [RepF] at h
    obtain ⟨w, r', rfl, h1, h2⟩ := h
    by_cases hg : g = f
    · simp only [putFD, putF, if_pos hg, RepF]; exact ⟨v, r', rfl, q, h2⟩
    · simp only [putFD, putF, if_neg hg, RepF]; exact ⟨w, _, rfl, h1, RepF.put q h2⟩
theorem RepF.length : ∀ {fs : List (Str × D)} {gs : List (Str × V)}, RepF K H μ x fs gs → fs.length = gs.length
  | [], gs, h => by simp only [RepF] at h; subst h; rfl
  | (g, e) :: r, gs, h => by
    simp only [RepF] at h
    obtain ⟨w, r', rfl, h1, h2⟩ := h
    simp [RepF.length h2]
/-- the heap behind a store into an attribute -/
def zSetF (C : Addr) (f : Str) (o v : D) (μ : Mu) (k : Mu → Prop) : Prop := match o with
  | .ref a => match μ a with
    | some (.ins C' fs) => C' = C ∧ fs.length < 1000 ∧ k (updM μ a (.ins C (putFD f v fs)))
    | _ => False
  | _ => False
def zSetFS (C : Addr) (f : Str) (zo zv : ZT) : ZS := fun D ρ μ => zv ρ μ (fun v μ1 => zo ρ μ1 (fun o μ2 => zSetF C f o v μ2 (D.nx ρ)) (fun r μ1 => D.ex r ρ μ1)) (fun r μ1 => D.ex r ρ μ1)
def zAugF (C : Addr) (f : Str) (zo zv : ZT) : ZS := fun D ρ μ => zo ρ μ (fun o μ1 => match insOf o μ1 with
  | some (C', fs) => C' = C ∧ match lookF f fs with
    | some (.int i) => zv ρ μ1 (fun v μ2 => match v with
      | .int j => zSetF C f o (.int (i + j)) μ2 (D.nx ρ)
      | _ => False) (fun r μ1 => D.ex r ρ μ1)
    | _ => False
  | none => False) (fun r μ1 => D.ex r ρ μ1)
variable {o e : Expr} {to te : TE} {zo ze : ZT} {pos p : Pos} {C : Addr}
theorem lf_fld (cl : Cls K C) (na : NoAttr K C f) : Lf1 K (fun x H1 Q => ∃ a C dx fs v, x = .ref a ∧ H1 a = some (.ins C dx fs) ∧ Cls K C ∧ NoAttr K C f ∧ fs.lookup f = some v ∧ Q v H1) (zFld C f) := fun x H μ d v q Q z r h p => by
  unfold zFld at h
  split at h
  · rename_i C' fs e
    obtain ⟨rfl, h⟩ := h
    split at h
    · rename_i w ew
      obtain ⟨a, dx, gs, rfl, ea, l⟩ := ins_of z r e
      obtain ⟨u, e1, r1⟩ := l.look ew
      exact ⟨a, _, dx, gs, u, rfl, ea, cl, na, e1, p.here z r1 h⟩
    · exact h.elim
  · exact h.elim
theorem zfld (cl : Cls X.K C) (na : NoAttr X.K C f) (ho : ZE X W o to zo) (hb : attributeBase o f X.env (eval o X.env) = eval o X.env := by rfl) : ZE X W (.Attribute o f pos) (tFld X.K to f) (zUn (zFld C f) zo) := ⟨pe_fld ho.p hb, le_un (lf_fld cl na) ho.l⟩
theorem lf_setF {o v : D} {vo vv : V} {k : Mu → Prop} {Q : Hp → Prop} (z : ZH K H μ x) (ro : Rep K H μ x o vo) (rv : Rep K H μ x v vv) (h : zSetF C f o v μ k) (p : ∀ H' μ', Grow H μ H' μ' x → ZH K H' μ' x → k μ' → Q H') :
    ∃ a dx gs, vo = .ref a ∧ H a = some (.ins C dx gs) ∧ gs.length < 1000 ∧ Q (upd H a (.ins C dx (putF f vv gs))) := by
  unfold zSetF at h
  split at h
  · rename_i a
    split at h
    · rename_i C' fs e
      obtain ⟨rfl, hl, h⟩ := h
      obtain ⟨dx, gs, e1, l⟩ := own_ins z e
      refine ⟨a, dx, gs, ro.ref, e1, by rw [← l.length]; exact hl, ?_⟩
      exact p _ _ (z.gwrite e) (z.write e (by simp only [Own]; exact ⟨dx, _, upd_same, RepF.mono (z.gwrite e) _ _ (l.put rv)⟩)) h
    · exact h.elim
  · exact h.elim
theorem zsetF (cl : Cls X.K C) (na : NoAttr X.K C f) (ho : ZE X W o to zo) (he : ZE X W e te ze) (hs : swapsWith e (some (.Attribute o f p)) pos.line X.env = pure false := by rfl) : ZSt X W (.Assign [.Attribute o f p] e pos) (sFld X.K to te f) (zSetFS C f zo ze) := ⟨ps_fld ho.p he.p hs, fun x σ H ρ μ D D' I c h en => by
  refine he.l x σ H ρ μ _ D.ex _ I c h fun dv v H1 μ1 g1 z1 r1 h1 => ?_
  refine ho.l x σ H1 ρ μ1 _ D.ex _ (I.grow g1 z1) (c.grow g1) h1 fun d2 v2 H2 μ2 g2 z2 r2 h2 => ?_
  have g := g1.trans g2
  obtain ⟨a, dx, gs, e1, e2, e3, e4⟩ := lf_setF (Q := fun H4 => D'.nx σ H4) z2 r2 (r1.mono g2) h2 fun H4 μ4 g4 z4 h4 => en.nx σ H4 ρ μ4 (g.trans g4) (I.grow (g.trans g4) z4) h4
  exact ⟨a, C, dx, gs, e1, e2, cl, na, e3, e4⟩⟩
theorem zaugF (cl : Cls X.K C) (na : NoAttr X.K C f) (ho : ZE X W o to zo) (he : ZE X W e te ze) : ZSt X W (.AugAssign (.Attribute o f p) .Add e pos) (sFldAug X.K to te rAdd f) (zAugF C f zo ze) := ⟨ps_fldaug ho.p he.p in_add, fun x σ H ρ μ D D' I c h en => by
  refine ho.l x σ H ρ μ _ D.ex _ I c h fun d v H1 μ1 g1 z1 r1 h1 => ?_
  split at h1
  · rename_i C' fs e1
    obtain ⟨rfl, h1⟩ := h1
    split at h1
    · rename_i i ei
      obtain ⟨a, dx, gs, rfl, ea, l⟩ := ins_of z1 r1 e1
      obtain ⟨u, e2, r2⟩ := l.look ei
      refine ⟨a, _, dx, gs, u, rfl, ea, cl, na, e2, ?_⟩
      refine he.l x σ H1 ρ μ1 _ D.ex _ (I.grow g1 z1) (c.grow g1) h1 fun d2 v2 H2 μ2 g2 z2 r3 h2 => ?_
      split at h2
      · rw [r2.int, r3.int]
        have g := g1.trans g2
        refine ⟨_, _, rfl, rfl, ?_⟩
        obtain ⟨a', dx', gs', q1, q2, q3, q4⟩ := lf_setF (Q := fun H4 => D'.nx σ H4) (vv := .int _) z2 (r1.mono g2) rep_int h2 fun H4 μ4 g4 z4 h4 => en.nx σ H4 ρ μ4 (g.trans g4) (I.grow (g.trans g4) z4) h4
        cases q1
        exact ⟨dx', gs', q2, q3, q4⟩
      · exact h2.elim
    · exact h1.elim
  · exact h1.elim⟩
end

/-! ### instances made; own methods -/
def zMake (C : Addr) (S : Zp) (zas : ZA) : ZT := fun ρ μ q e => zas ρ μ (fun ds μ1 => ∀ p, μ1 p = none → S (.ref p :: ds) (updM μ1 p (.ins C [])) (fun d μ2 => d = .non ∧ q (.ref p) μ2) (fun _ _ => False)) e
/-- a new instance that stays as it is -/
def zMakeF (C : Addr) (S : Zp) (zas : ZA) : ZT := fun ρ μ q e => zas ρ μ (fun ds μ1 => ∀ p, μ1 p = none → S (.ref p :: ds) (updM μ1 p (.ins C [])) (fun d μ2 => d = .non ∧ match μ2 p with
  | some c => q c (delM μ2 p)
  | none => False) (fun _ _ => False)) e
def zMeth (C : Addr) (m : Str) (S : Zp) (zo : ZT) (zas : ZA) : ZT := fun ρ μ q e => zo ρ μ (fun o μ1 => match insOf o μ1 with
  | some (C', fs) => C' = C ∧ lookF m fs = none ∧ zas ρ μ1 (fun ds μ2 => S (o :: ds) μ2 q e) e
  | none => False) e
end Z

set_option maxRecDepth 100000
set_option maxHeartbeats 4000000
namespace Z
open PySem L2

/-! ### own methods, instances made -/
section
variable {X : Cx} {W : WX} {k j n : Nat} {f C : Addr} {fd : FuncData} {ps : List Str} {S : Zp} {x m : Str} {p pos apos : Pos} {o e : Expr} {es : List Expr} {to : TE} {zo : ZT} {tas : TA} {zas : ZA} {sp : Sp} {E : L2.St → XK}
/-- o.m(..): what it raises is wished for at the slots as they stand -/
def tMethW (C : Addr) (m : Str) (sp : Sp) (E : L2.St → XK) (ta : TE) (t : TA) : TE := fun σ H Q => ta σ H fun x H1 => ∃ a dx fs, x = .ref a ∧ H1 a = some (.ins C dx fs) ∧ fs.lookup m = none ∧ t σ H1 fun vs H2 => sp (x :: vs) H2 Q (E σ)
theorem pe_methW {pl : Sem Bool} (he : PE X o to) (c : Cls X.K C) (hm : Meth X.K C m f) (F : FnOk X.prog X.w X.K X.mg X.base (L2.CX X.prog X.w) j f fd ps sp) (hr : Room j X.A) (hb : Binds X.K fd ps []) (hx : ∀ σ, PassesAt (L2.CX X.prog X.w) X σ (E σ)) (ha : PA X (e :: es) tas)
    (hst : starEach (e :: es) X.env = (false, eval e X.env) :: starEach es X.env) (hpl : (backTo pos (starEach es X.env)).any (·.1) = false)
    (ht : eval (.Call (.Attribute o m apos) (e :: es) [] pos) X.env = (do
      let ov ← eval o X.env
      standAt apos.atName
      let (f, first) ← holding [ov] (getMethod ov m pl)
      callWith pos f first (backTo pos (starEach (e :: es) X.env)) (backToKw pos (keywordEach [] X.env)))) :
    PE X (.Call (.Attribute o m apos) (e :: es) [] pos) (tMethW C m sp E to tas) := by
  refine ⟨fun pins s σ H Q I h => PySem.W.methodCall_KW (pl := pl) (thn (he.run pins s σ H _ I h) fun u s1 q1 => ?_) ht⟩
  obtain ⟨x, H1, I1, rx, a, dx, fs, ex, ea, l, q⟩ := q1
  subst ex
  obtain rfl : u = Value.ref a := rx
  refine getmeth_ok I1 ea c hm l (PySem.W.callWith_K (first := [.ref a]) (h₀ := X.base) I.ok.mod.kin hm.kp (thn (ha.run pos pins s1 σ H1 _ I1 q) fun us s2 q2 => ?_) hst hpl)
  obtain ⟨vs, H2, I2, r, q2⟩ := q2
  exact ⟨I2.kIn, run_fnS (us := .ref a :: us) (vs := .ref a :: vs) F hr hb (hx σ) I2 (.cons rfl r) q2⟩
theorem pe_methW0 {pl : Sem Bool} (he : PE X o to) (c : Cls X.K C) (hm : Meth X.K C m f) (F : FnOk X.prog X.w X.K X.mg X.base (L2.CX X.prog X.w) j f fd ps sp) (hr : Room j X.A) (hb : Binds X.K fd ps []) (hx : ∀ σ, PassesAt (L2.CX X.prog X.w) X σ (E σ))
    (ht : eval (.Call (.Attribute o m apos) [] [] pos) X.env = (do
      let ov ← eval o X.env
      standAt apos.atName
      let (f, first) ← holding [ov] (getMethod ov m pl)
      callWith pos f first (backTo pos (starEach [] X.env)) (backToKw pos (keywordEach [] X.env)))) :
    PE X (.Call (.Attribute o m apos) [] [] pos) (tMethW C m sp E to tNil) := by
  refine ⟨fun pins s σ H Q I h => PySem.W.methodCall_KW (pl := pl) (thn (he.run pins s σ H _ I h) fun u s1 q1 => ?_) ht⟩
  obtain ⟨x, H1, I1, rx, a, dx, fs, ex, ea, l, q⟩ := q1
  subst ex
  obtain rfl : u = Value.ref a := rx
  exact getmeth_ok I1 ea c hm l (PySem.W.callWith_K0 (first := [.ref a]) I1.kIn hm.kp (run_fnS (us := [.ref a]) (vs := [.ref a]) F hr hb (hx σ) I1 (.cons rfl .nil) q))
theorem sp_in {K : PySem.W.Frag} {xx : Ax} {σ : L2.St} {H H1 : Hp} {ρ : Sl} {μ μ1 : Mu} {q : ZQ} {w : ZW} {Q : VK} {ds : List D} {vs : List V} (I : ZInv K σ H ρ μ xx) (c : WC K W w H μ xx) (k : ∀ d v H' μ', Grow H μ H' μ' xx → ZH K H' μ' xx → Rep K H' μ' xx d v → q d μ' → Q v H')
    (g1 : Grow H μ H1 μ1 xx) (z1 : ZH K H1 μ1 xx) (r : RepL K H1 μ1 xx ds vs) (hl : vs.length = n) (h : S ds μ1 q (fun r μ' => w r ρ μ')) : spOf K n S vs H1 Q (WE W σ) :=
  ⟨hl, xx, ds, μ1, q, _, z1, r, h, fun d v H' μ' g => k d v H' μ' (g1.trans g), fun r cls dd H' μ' g z er hw => c σ H' ρ μ' cls dd r (g1.trans g) (I.grow (g1.trans g) z) er hw⟩
theorem zmeth {pl : Sem Bool} (cx : ZC X W k) (cl : Cls X.K C) (hm : Meth X.K C m f) (F : FnOk X.prog X.w X.K X.mg X.base (L2.CX X.prog X.w) j f fd ps (spOf X.K (n + 1) S)) (hb : Binds X.K fd ps []) (ho : ZE X W o to zo) (ha : ZAr X W n (e :: es) tas zas) (hj : j ≤ k := by decide)
    (hst : starEach (e :: es) X.env = (false, eval e X.env) :: starEach es X.env := by rfl) (hpl : (backTo pos (starEach es X.env)).any (·.1) = false := by rfl)
    (ht : eval (.Call (.Attribute o m apos) (e :: es) [] pos) X.env = (do
      let ov ← eval o X.env
      standAt apos.atName
      let (f, first) ← holding [ov] (getMethod ov m pl)
      callWith pos f first (backTo pos (starEach (e :: es) X.env)) (backToKw pos (keywordEach [] X.env))) := by rfl) :
    ZE X W (.Call (.Attribute o m apos) (e :: es) [] pos) (tMethW C m (spOf X.K (n + 1) S) (WE W) to tas) (zMeth C m S zo zas) :=
  ⟨pe_methW ho.p cl hm F (cx.room.mono hj) hb (fun σ => passAt cx.tk σ) ha.p hst hpl ht, fun x σ H ρ μ q w Q I c h k => by
    refine ho.l x σ H ρ μ _ w _ I c h fun d v H1 μ1 g1 z1 r1 h1 => ?_
    split at h1
    · rename_i C' fs e1
      obtain ⟨rfl, hl, h1⟩ := h1
      obtain ⟨a, dx, gs, rfl, ea, l⟩ := ins_of z1 r1 e1
      refine ⟨a, dx, gs, rfl, ea, l.lookNone hl, ?_⟩
      refine ha.l x σ H1 ρ μ1 _ w _ (I.grow g1 z1) (c.grow g1) h1 fun ds vs H2 μ2 g2 z2 r2 l2 h2 => ?_
      exact sp_in I c k (g1.trans g2) z2 (by simp only [RepL]; exact ⟨_, vs, rfl, r1.mono g2, r2⟩) (by rw [List.length_cons, l2]) h2
    · exact h1.elim⟩
theorem zmeth0 {pl : Sem Bool} (cx : ZC X W k) (cl : Cls X.K C) (hm : Meth X.K C m f) (F : FnOk X.prog X.w X.K X.mg X.base (L2.CX X.prog X.w) j f fd ps (spOf X.K 1 S)) (hb : Binds X.K fd ps []) (ho : ZE X W o to zo) (hj : j ≤ k := by decide)
    (ht : eval (.Call (.Attribute o m apos) [] [] pos) X.env = (do
      let ov ← eval o X.env
      standAt apos.atName
      let (f, first) ← holding [ov] (getMethod ov m pl)
      callWith pos f first (backTo pos (starEach [] X.env)) (backToKw pos (keywordEach [] X.env))) := by rfl) :
    ZE X W (.Call (.Attribute o m apos) [] [] pos) (tMethW C m (spOf X.K 1 S) (WE W) to tNil) (zMeth C m S zo zNil) :=
  ⟨pe_methW0 ho.p cl hm F (cx.room.mono hj) hb (fun σ => passAt cx.tk σ) ht, fun x σ H ρ μ q w Q I c h k => by
    refine ho.l x σ H ρ μ _ w _ I c h fun d v H1 μ1 g1 z1 r1 h1 => ?_
    split at h1
    · rename_i C' fs e1
      obtain ⟨rfl, hl, h1⟩ := h1
      obtain ⟨a, dx, gs, rfl, ea, l⟩ := ins_of z1 r1 e1
      exact ⟨a, dx, gs, rfl, ea, l.lookNone hl, sp_in I c k g1 z1 (by simp only [RepL]; exact ⟨_, [], rfl, r1, rfl⟩) rfl h1⟩
    · exact h1.elim⟩
theorem grow_made {K : PySem.W.Frag} {xx : Ax} {H : Hp} {μ : Mu} (z : ZH K H μ xx) {p dx : Addr} (hp : H p = none) (hd : H dx = none) (ne : dx ≠ p) :
    Grow H μ (upd (upd H dx (.own p)) p (.ins C dx [])) (updM μ p (.ins C [])) xx ∧ ZH K (upd (upd H dx (.own p)) p (.ins C dx [])) (updM μ p (.ins C [])) xx := by
  have g1 := z.gnew (o := .own p) hd
  have z1 := z.new (o := .own p) hd
  have hp1 : (upd H dx (.own p)) p = none := by rw [upd_ne (Ne.symm ne)]; exact hp
  exact ⟨g1.trans (z1.gown hp1), z1.onew hp1 (by simp only [Own]; exact ⟨dx, [], upd_same, by simp [RepF]⟩)⟩
theorem le_make {k : Nat} (la : LA X.K W n tas zas) : LE X.K W (tMake C (spOf X.K (n + 1) S) [] E0 tas) (zMake C S zas) := fun x σ H ρ μ q w Q I c h k => by
  refine la x σ H ρ μ _ w _ I c h fun ds vs H1 μ1 g1 z1 r1 l1 h1 => fun p dx hp hd ne => ?_
  obtain ⟨g2, z2⟩ := grow_made (C := C) z1 hp hd ne
  refine ⟨by simp [l1], x, .ref p :: ds, _, _, _, z2, ?_, h1 p (z1.fresh hp).1, fun d v H' μ' g z r hq => ⟨?_, k _ _ H' μ' (g1.trans (g2.trans g)) z rep_ref hq.2⟩, fun r cls dd H' μ' g z er hw => hw.elim⟩
  · rw [List.append_nil]
    simp only [RepL]
    exact ⟨_, vs, rfl, rep_ref, RepL.mono g2 _ _ r1⟩
  · have e := hq.1
    subst e
    exact r.non
theorem le_makeF {k : Nat} (la : LA X.K W n tas zas) : LE X.K W (tMake C (spOf X.K (n + 1) S) [] E0 tas) (zMakeF C S zas) := fun x σ H ρ μ q w Q I c h k => by
  refine la x σ H ρ μ _ w _ I c h fun ds vs H1 μ1 g1 z1 r1 l1 h1 => fun p dx hp hd ne => ?_
  obtain ⟨g2, z2⟩ := grow_made (C := C) z1 hp hd ne
  refine ⟨by simp [l1], x, .ref p :: ds, _, _, _, z2, ?_, h1 p (z1.fresh hp).1, fun d v H' μ' g z r hq => ?_, fun r cls dd H' μ' g z er hw => hw.elim⟩
  · rw [List.append_nil]
    simp only [RepL]
    exact ⟨_, vs, rfl, rep_ref, RepL.mono g2 _ _ r1⟩
  · obtain ⟨e, hq⟩ := hq
    subst e
    split at hq
    · rename_i c2 e2
      exact ⟨r.non, k _ _ H' _ (g1.trans (g2.trans (g.trans ZH.gfreeze))) z.freeze (z.frozen e2) hq⟩
    · exact hq.elim
theorem zmake (cx : ZC X W k) (M : Mk X.K C f) (F : FnOk X.prog X.w X.K X.mg X.base (L2.CX X.prog X.w) j f fd ps (spOf X.K (n + 1) S)) (hm : X.mg x = some (.ref C)) (hb : Binds X.K fd ps []) (ha : ZAr X W n (e :: es) tas zas) (hj : j + 1 ≤ k := by decide)
    (hg : Gl X x := by rfl) (hdb : (x == ("__debug__" : Str)) = false := by decide) (he : starEach (e :: es) X.env = (false, eval e X.env) :: starEach es X.env := by rfl) (hpl : (backTo pos (starEach es X.env)).any (·.1) = false := by rfl) :
    ZE X W (.Call (.Name x p) (e :: es) [] pos) (tMake C (spOf X.K (n + 1) S) [] E0 tas) (zMake C S zas) := ⟨pe_make M F (cx.room.mono hj) hg hm hb .nil passL ha.p hdb he hpl, le_make (k := k) ha.l⟩
theorem zmakeF (cx : ZC X W k) (M : Mk X.K C f) (F : FnOk X.prog X.w X.K X.mg X.base (L2.CX X.prog X.w) j f fd ps (spOf X.K (n + 1) S)) (hm : X.mg x = some (.ref C)) (hb : Binds X.K fd ps []) (ha : ZAr X W n (e :: es) tas zas) (hj : j + 1 ≤ k := by decide)
    (hg : Gl X x := by rfl) (hdb : (x == ("__debug__" : Str)) = false := by decide) (he : starEach (e :: es) X.env = (false, eval e X.env) :: starEach es X.env := by rfl) (hpl : (backTo pos (starEach es X.env)).any (·.1) = false := by rfl) :
    ZE X W (.Call (.Name x p) (e :: es) [] pos) (tMake C (spOf X.K (n + 1) S) [] E0 tas) (zMakeF C S zas) := ⟨pe_make M F (cx.room.mono hj) hg hm hb .nil passL ha.p hdb he hpl, le_makeF (k := k) ha.l⟩
end

/-! ### isinstance -/
inductive Ty where
  | int | str | lst | tup | bool | dict | none | own (C : Addr)
  deriving DecidableEq
def Ty.val : Ty → Value
  | .int => .type "int"
  | .str => .type "str"
  | .lst => .type "list"
  | .tup => .type "tuple"
  | .bool => .type "bool"
  | .dict => .type "dict"
  | .none => .type "NoneType"
  | .own C => .ref C
def tyD (d : D) (μ : Mu) : Option Ty := match d with
  | .non => some .none
  | .bl _ => some .bool
  | .int _ => some .int
  | .str _ => some .str
  | .lst _ => some .lst
  | .klst _ => some .lst
  | .tup _ => some .tup
  | .dct _ => some .dict
  | .ins C _ => some (.own C)
  | .ref a => match μ a with
    | some (.lst _) => some .lst
    | some (.dct _) => some .dict
    | some (.ins C _) => some (.own C)
    | _ => Option.none
  | .oth _ => Option.none
/-- whether a thing of type t is an instance of c; a bool is an int -/
def isTy (t c : Ty) : Bool := t == c || (t == .bool && c == .int)
def zIsi (own : List Addr) (cs : List Ty) : F1 := fun d μ q => match tyD d μ with
  | some (.own C) => C ∈ own ∧ q (.bl (cs.any (isTy (.own C)))) μ
  | some t => q (.bl (cs.any (isTy t))) μ
  | none => False
/-- what is known of an own class among the types -/
structure ClsTy (K : PySem.W.Frag) (C : Addr) : Prop where
  cl : Cls K C
  ha : PySem.W.findIn K (.ref C) "__class__" = some (some (.builtin "object.__class__"))
  hn : PySem.W.specialIn K (.builtin "object.__class__") "__get__" = some (some (.builtin "getset_descriptor.__get__"))
  htk : PySem.W.takesIn K (.builtin "object.__class__") = some true
  hm : PySem.W.mroIn K C (.type "object") = some true
section
variable {K : PySem.W.Frag} {H : Hp} {μ : Mu} {x : Ax}
theorem ty_of {d : D} {v : V} {t : Ty} (hc : ∀ C, t = .own C → ClsTy K C) (z : ZH K H μ x) (r : Rep K H μ x d v) (h : tyD d μ = some t) : TyX K H v t.val := by
  cases d with
  | non => cases h; rw [r.non]; exact .base .non
  | bl b => cases h; rw [r.bl]; exact .base (.bl b)
  | int i => cases h; rw [r.int]; exact .base (.int i)
  | str s => cases h; rw [r.str]; exact .base (.str s)
  | lst ds =>
    cases h
    simp only [Rep] at r
    obtain ⟨a, vs, rfl, q, _⟩ := r
    rcases q.1 with e | ⟨_, o, e⟩
    · exact .base (.lst e)
    · exact .base (.frz e)
  | klst ds =>
    cases h
    simp only [Rep] at r
    obtain ⟨a, vs, rfl, q, _⟩ := r
    rcases q with q | ⟨o, its, n, e, c, _⟩
    · rcases q.1 with e | ⟨_, o, e⟩
      · exact .base (.lst e)
      · exact .base (.frz e)
    · exact .kList e c
  | tup ds =>
    cases h
    simp only [Rep] at r
    obtain ⟨a, vs, rfl, q, _⟩ := r
    rcases q with q | ⟨o, its, n, e, c, _⟩
    · exact .base (.tup (q.hard rfl))
    · exact .kTuple e c
  | dct kvs =>
    cases h
    simp only [Rep] at r
    obtain ⟨a, us, rfl, q, _⟩ := r
    rcases q.1 with e | ⟨_, o, e⟩
    · exact .base (.dK e)
    · exact .fDict e
  | ins C fs =>
    cases h
    simp only [Rep] at r
    obtain ⟨a, dx, gs, rfl, q, _⟩ := r
    have T := hc C rfl
    exact .base (.ins (q.hard rfl) T.cl T.ha T.hn T.htk T.hm)
  | ref a =>
    have e0 := r.ref
    subst e0
    simp only [tyD] at h
    split at h
    · rename_i ds e
      cases h
      obtain ⟨us, e1, _⟩ := own_lst z e
      exact .base (.lst e1)
    · rename_i ds e
      cases h
      obtain ⟨us, e1, _⟩ := own_dct z e
      exact .base (.dK e1)
    · rename_i C ds e
      cases h
      obtain ⟨dx, us, e1, _⟩ := own_ins z e
      have T := hc C rfl
      exact .base (.ins e1 T.cl T.ha T.hn T.htk T.hm)
    · cases h
  | oth w => cases h
end
/-- the facts that isinstance(.., c) leans on: every type that may come is told against c -/
structure Isi (K : PySem.W.Frag) (own : List Addr) (c : Ty) : Prop where
  ok : ∀ t : Ty, (∀ C, t = .own C → C ∈ own) → PySem.W.kitOne K t.val c.val = some (isTy t c)
def Ty.v : Ty → V
  | .int => .ty "int"
  | .str => .ty "str"
  | .lst => .ty "list"
  | .tup => .ty "tuple"
  | .bool => .ty "bool"
  | .dict => .ty "dict"
  | .none => .ty "NoneType"
  | .own C => .ref C
theorem Ty.cls (c : Ty) : ClsV c.v c.val := by cases c <;> first | exact .ty _ | exact .own _
section
variable {X : Cx} {W : WX} {K : PySem.W.Frag} {H : Hp} {μ : Mu} {x : Ax} {own : List Addr}
theorem isi_core {d : D} {v : V} {cs : List Ty} {q : ZQ} (hc : ∀ C ∈ own, ClsTy K C) (z : ZH K H μ x) (r : Rep K H μ x d v) (h : zIsi own cs d μ q) : ∃ t, (∀ C, t = .own C → C ∈ own) ∧ TyX K H v t.val ∧ q (.bl (cs.any (isTy t))) μ := by
  unfold zIsi at h
  split at h
  · rename_i C e
    have hm : ∀ C', Ty.own C = .own C' → C' ∈ own := fun C' e => by cases e; exact h.1
    exact ⟨.own C, hm, ty_of (fun C' e' => hc C' (hm C' e')) z r e, h.2⟩
  · rename_i t n e
    have hm : ∀ C', t = .own C' → C' ∈ own := fun C' e' => (n C' e').elim
    exact ⟨t, hm, ty_of (fun C' e' => hc C' (hm C' e')) z r e, h⟩
  · exact h.elim
theorem any1 {t c : Ty} : [c].any (isTy t) = isTy t c := by simp
theorem kit_any {t : Ty} : ∀ {cs : List Ty}, (∀ c ∈ cs, PySem.W.kitOne K t.val c.val = some (isTy t c)) → PySem.W.kitAny K t.val (cs.map Ty.val) = some (cs.any (isTy t))
  | [], _ => kitAny_nil
  | c :: cs, h => by
    rw [List.map_cons, List.any_cons]
    refine kitAny_cons (h c List.mem_cons_self) (fun e => ?_) (fun e => by rw [e, Bool.true_or])
    rw [e, Bool.false_or]
    exact kit_any fun c' hc' => h c' (List.mem_cons_of_mem _ hc')
theorem clsvs : ∀ cs : List Ty, Paired ClsV (cs.map Ty.v) (cs.map Ty.val)
  | [] => .nil
  | c :: cs => .cons c.cls (clsvs cs)
/-- a tuple of types, written -/
structure TyArgs (X : Cx) (es : List Expr) (cs : List Ty) (t : TA) : Prop where
  p : PA X es t
  l : ∀ σ H (Q : List V → Hp → Prop), Q (cs.map Ty.v) H → t σ H Q
theorem tyargs_nil : TyArgs X [] [] tNil := ⟨pa_nil, fun σ H Q h => h⟩
theorem tyargs_cons {e : Expr} {es : List Expr} {c : Ty} {cs : List Ty} {t : TA} (h1 : PE X e (tC c.v)) (h2 : TyArgs X es cs t) (hs : starEach (e :: es) X.env = (false, eval e X.env) :: starEach es X.env := by rfl) : TyArgs X (e :: es) (c :: cs) (tCons (tC c.v) t) :=
  ⟨pa_cons h1 h2.p hs, fun σ H Q h => h2.l σ H _ h⟩
variable {p pos tpos : Pos} {e ec : Expr} {te : TE} {ze : ZT} {es : List Expr} {c : Ty} {cs : List Ty} {t : TA} {k : Nat}
theorem zisi (hm : X.mg "isinstance" = none) (hc : ∀ C ∈ own, ClsTy X.K C) (hi : Isi X.K own c) (he : ZE X W e te ze) (h1 : PE X ec (tC c.v)) (hg : Gl X "isinstance" := by rfl)
    (hs : starEach (e :: [ec]) X.env = (false, eval e X.env) :: starEach [ec] X.env := by rfl) (hs2 : starEach [ec] X.env = (false, eval ec X.env) :: starEach [] X.env := by rfl) (hpl : (backTo pos (starEach [ec] X.env)).any (·.1) = false := by rfl) :
    ZE X W (.Call (.Name "isinstance" p) [e, ec] [] pos) (tCB (rIsi X.K) (tCons te (tCons (tC c.v) tNil))) (zUn (zIsi own [c]) ze) :=
  ⟨pe_callB call_isi hg hm (by decide +kernel) (pa_cons he.p (pa_cons h1 pa_nil hs2) hs) (by decide) (by decide) hs hpl, fun x σ H ρ μ q w Q I wc h k => by
    refine he.l x σ H ρ μ _ w _ I wc h fun d v H1 μ1 g1 z1 r1 h1 => ?_
    obtain ⟨t, hm, ty, hq⟩ := isi_core hc z1 r1 h1
    rw [any1] at hq
    exact ⟨v, c.v, t.val, c.val, isTy t c, rfl, c.cls, ty, hi.ok t hm, k _ _ H1 μ1 g1 z1 rep_bl hq⟩⟩
theorem tyx_new {H : Hp} {v : V} {t : Value} {a : Addr} {o : HO} (n : H a = none) (h : TyX K H v t) : TyX K (upd H a o) v t := by
  have up : ∀ {b u}, H b = some u → upd H a o b = some u := fun e => by rw [upd_ne (ne_of_none e n)]; exact e
  cases h with
  | base h =>
    cases h with
    | non => exact .base .non
    | bl b => exact .base (.bl b)
    | int b => exact .base (.int b)
    | str b => exact .base (.str b)
    | flt b => exact .base (.flt b)
    | lst e => exact .base (.lst (up e))
    | frz e => exact .base (.frz (up e))
    | tup e => exact .base (.tup (up e))
    | dK e => exact .base (.dK (up e))
    | dT e => exact .base (.dT (up e))
    | ins e h1 h2 h3 h4 h5 => exact .base (.ins (up e) h1 h2 h3 h4 h5)
  | byt b => exact .byt b
  | set e => exact .set (up e)
  | kList e c => exact .kList e c
  | kTuple e c => exact .kTuple e c
  | kDict e c => exact .kDict e c
  | fTuple e => exact .fTuple (up e)
  | fDict e => exact .fDict (up e)
theorem zisiT {kk : Nat} (hm : X.mg "isinstance" = none) (hc : ∀ C ∈ own, ClsTy X.K C) (hi : ∀ c ∈ cs, Isi X.K own c) (he : ZE X W e te ze) (h1 : TyArgs X es cs t) (hl : cs.length ≤ 1000 := by decide) (hg : Gl X "isinstance" := by rfl)
    (hs : starEach (e :: [.Tuple es kk tpos]) X.env = (false, eval e X.env) :: starEach [.Tuple es kk tpos] X.env := by rfl) (hs2 : starEach [.Tuple es kk tpos] X.env = (false, eval (.Tuple es kk tpos) X.env) :: starEach [] X.env := by rfl) (hpl : (backTo pos (starEach [.Tuple es kk tpos] X.env)).any (·.1) = false := by rfl) :
    ZE X W (.Call (.Name "isinstance" p) [e, .Tuple es kk tpos] [] pos) (tCB (rIsiT X.K) (tCons te (tCons (tTup t) tNil))) (zUn (zIsi own cs) ze) :=
  ⟨pe_callB call_isiT hg hm (by decide +kernel) (pa_cons he.p (pa_cons (pe_tup h1.p) pa_nil hs2) hs) (by decide) (by decide) hs hpl, fun x σ H ρ μ q w Q I wc h k => by
    refine he.l x σ H ρ μ _ w _ I wc h fun d v H1 μ1 g1 z1 r1 h' => ?_
    refine h1.l σ H1 _ ⟨by rw [List.length_map]; exact Nat.le_of_lt (small1000 hl), fun a ha => ?_⟩
    obtain ⟨t, hm, ty, hq⟩ := isi_core hc z1 r1 h'
    exact ⟨v, a, cs.map Ty.v, t.val, cs.map Ty.val, _, rfl, upd_same, clsvs cs, tyx_new ha ty, kit_any fun c hcs => (hi c hcs).ok t hm, k _ _ _ μ1 (g1.trans (z1.gnew ha)) (z1.new ha) rep_bl hq⟩⟩
theorem pe_ty {T : String} {x : Str} {pos : Pos} (hm : X.mg x = none) (hg : Gl X x := by rfl) (hv : bootBuiltins x = some (.type T) := by decide +kernel) (hn : x ≠ "__name__" := by decide) (hd : (x == ("__debug__" : Str)) = false := by decide) : PE X (.Name x pos) (tC (.ty T)) := pe_bltn hg hm hv rfl hn hd
end
/-- the built-in types among themselves -/
theorem isi_b {K : PySem.W.Frag} (c : Ty) (hc : ∀ C, c ≠ .own C) : Isi K [] c := ⟨fun t ht => by
  cases t <;> cases c
  all_goals first | exact absurd rfl (hc _) | exact absurd (ht _ rfl) (by simp) | exact kit_ty (by decide +kernel)⟩
end Z

set_option maxRecDepth 100000
set_option maxHeartbeats 4000000
namespace Z
open PySem L2

/-! ### comprehensions -/
abbrev W0 : WX := fun _ _ _ _ => False
def zwipe (ρ : Sl) : List Nat → Sl
  | [] => ρ
  | v :: vs => (zwipe ρ vs).set v none
/-- a target that touches the slots vs alone -/
def GOwn (g : TG) (vs : List Nat) : Prop := ∀ v σ H (k k' : L2.St → Hp → Prop), g v σ H k → (∀ σ2 H2, wipe σ2 vs = wipe σ vs → k σ2 H2 → k' σ2 H2) → g v σ H k'
def GsOwn (g : TGs) (vs : List Nat) : Prop := ∀ v σ H (k k' : L2.St → Hp → Prop), g v σ H k → (∀ σ2 H2, wipe σ2 vs = wipe σ vs → k σ2 H2 → k' σ2 H2) → g v σ H k'
theorem wipe_set {σ : L2.St} {i : Nat} {a : Option V} : ∀ {vs : List Nat}, i ∈ vs → wipe (σ.set i a) vs = wipe σ vs
  | [], h => by simp at h
  | v :: vs, h => by
    show (wipe (σ.set i a) vs).set v none = (wipe σ vs).set v none
    by_cases hv : i ∈ vs
    · rw [wipe_set hv]
    · have hi : i = v := (List.mem_cons.mp h).resolve_right hv
      subst hi
      have e : ∀ (us : List Nat), i ∉ us → wipe (σ.set i a) us = (wipe σ us).set i a := by
        intro us
        induction us with
        | nil => intro _; rfl
        | cons u us ih =>
          intro hu
          have h1 : u ≠ i := fun q => hu (by rw [q]; exact List.mem_cons_self)
          have h2 : i ∉ us := fun q => hu (List.mem_cons_of_mem _ q)
          show (wipe (σ.set i a) us).set u none = ((wipe σ us).set u none).set i a
          rw [ih h2, List.set_comm _ _ h1]
      rw [e vs hv, List.set_set]
theorem wipe_idem {σ : L2.St} : ∀ (vs us : List Nat), (∀ v ∈ vs, v ∈ us) → wipe (wipe σ vs) us = wipe σ us
  | [], us, _ => rfl
  | v :: vs, us, h => by
    show wipe ((wipe σ vs).set v none) us = wipe σ us
    rw [wipe_set (h v List.mem_cons_self), wipe_idem vs us fun w hw => h w (List.mem_cons_of_mem _ hw)]
theorem gown_name {i : Nat} {vs : List Nat} (h : i ∈ vs := by simp) : GOwn (gName i) vs := fun v σ H k k' q f => f _ H (wipe_set h) q
theorem gsown_nil {vs : List Nat} : GsOwn gNil vs := fun v σ H k k' q f => ⟨q.1, f σ H rfl q.2⟩
theorem gsown_cons {g : TG} {gs : TGs} {vs : List Nat} (h1 : GOwn g vs) (h2 : GsOwn gs vs) : GsOwn (gCons g gs) vs := fun v σ H k k' q f => by
  obtain ⟨a, r, e, q⟩ := q
  exact ⟨a, r, e, h1 a σ H _ _ q fun σ2 H2 w q2 => h2 r σ2 H2 _ _ q2 fun σ3 H3 w3 q3 => f σ3 H3 (w3.trans w) q3⟩
theorem gown_tup {K : PySem.W.Frag} {n : Nat} {gs : TGs} {vs : List Nat} (h : GsOwn gs vs) : GOwn (gTup K n gs) vs := fun v σ H k k' q f => by
  obtain ⟨a, xs, e, t, l, q⟩ := q
  exact ⟨a, xs, e, t, l, h xs σ H _ _ q f⟩
def zLcL (g : ZG) (c : ZB) (e : ZT) (ρ : Sl) (q : ZQ) : List D → List D → Mu → Prop
  | acc, [], μ => q (.lst acc) μ
  | acc, d :: ds, μ => g d ρ μ fun ρ2 μ2 => c ρ2 μ2 (fun b μ3 => match b with
    | true => e ρ2 μ3 (fun y μ4 => zLcL g c e ρ q (acc ++ [y]) ds μ4) (fun _ _ => False)
    | false => zLcL g c e ρ q acc ds μ3) (fun _ _ => False)
def zLc (zi : ZI) (g : ZG) (c : ZB) (e : ZT) (vs : List Nat) : ZT := fun ρ μ q ex => zi ρ μ (fun ds μ1 => ds.length ≤ sizeLine ∧ zLcL g c e (zwipe ρ vs) q [] ds μ1) ex
def zYes : ZB := fun _ μ q _ => q true μ
section
variable {K : PySem.W.Frag} {W : WX} {wi : TI} {zi : ZI} {g : TG} {zg : ZG} {tt : TT} {zt : ZB} {te : TE} {ze : ZT} {vs : List Nat}
theorem lt_yes : LT K W tYes zYes := fun x σ H ρ μ q w Q I c h k => k true H μ Grow.refl I.zh h
theorem ZInv.wipe {x : Ax} {σ : L2.St} {H : Hp} {ρ : Sl} {μ : Mu} (I : ZInv K σ H ρ μ x) : ∀ vs : List Nat, ZInv K (L2.wipe σ vs) H (zwipe ρ vs) μ x
  | [] => I
  | v :: vs => by
    have J := ZInv.wipe I vs
    refine ⟨by simp [zwipe, L2.wipe, J.len], fun i d h => ?_, I.zh⟩
    simp only [zwipe] at h
    by_cases hi : v = i
    · subst hi
      by_cases hl : v < (zwipe ρ vs).length
      · rw [List.getElem?_set_self hl] at h; cases h
      · rw [List.getElem?_eq_none (by simpa using hl)] at h; cases h
    · rw [List.getElem?_set_ne hi] at h
      obtain ⟨u, e, r⟩ := J.sl i d h
      exact ⟨u, by simp only [L2.wipe]; rw [List.getElem?_set_ne hi]; exact e, r⟩
theorem ZInv.mo {x x' : Ax} {σ : L2.St} {H H' : Hp} {ρ : Sl} {μ μ' : Mu} (I : ZInv K σ H ρ μ x) (f : Fm H μ x H' μ' x') (z : ZH K H' μ' x') : ZInv K σ H' ρ μ' x' :=
  ⟨I.len, fun i d h => let ⟨v, e, r⟩ := I.sl i d h; ⟨v, e, r.mo f⟩, z⟩
theorem wc0 {x : Ax} {H : Hp} {μ : Mu} : WC K W0 (fun _ _ _ => False) H μ x := fun _ _ _ _ _ _ _ _ _ _ h => h
theorem lc_core (hi : LI K W wi zi) (hg : LG K g zg) (ho : GOwn g vs) (ht : LT K W0 tt zt) (he : LE K W0 te ze) (x : Ax) (σ : L2.St) (H : Hp) (ρ : Sl) (μ : Mu) (q : ZQ) (w : ZW) (Q : VK) (I : ZInv K σ H ρ μ x) (c : WC K W w H μ x)
    (h : zLc zi zg zt ze vs ρ μ q (fun r μ' => w r ρ μ')) (fin : ∀ L acc accV H1 μ1 H' μ', Grow H μ H1 μ1 x → ZH K H1 μ1 x → H1 L = none → Fm H1 μ1 x H' μ' (addX x L) → (∀ a, x a → H' a = H1 a) → ZH K H' μ' (addX x L) → H' L = some (.lst accV) → RepL K H' μ' (addX x L) acc accV →
      q (.lst acc) μ' → Q (.ref L) H') : tLc wi g tt te vs σ H Q := by
  refine hi x σ H ρ μ _ w _ I c h fun ds J H1 μ1 g1 z1 wk h1 => fun L hL => ?_
  obtain ⟨hsz, h1⟩ := h1
  -- L stands aside
  have a1 : Fm H1 μ1 x (upd H1 L (.lst [])) μ1 (addX x L) := Fm.aside hL
  have b1 : ZH K (upd H1 L (.lst [])) μ1 (addX x L) := z1.aside hL
  have I1 := I.grow g1 z1
  refine ⟨fun i m H' => m = ds.length - i ∧ i ≤ ds.length ∧ ∃ acc accV μ', Fm H1 μ1 x H' μ' (addX x L) ∧ (∀ a, x a → H' a = H1 a) ∧ ZH K H' μ' (addX x L) ∧ H' L = some (.lst accV) ∧ RepL K H' μ' (addX x L) acc accV ∧ accV.length ≤ i ∧ zLcL zg zt ze (zwipe ρ vs) q acc (ds.drop i) μ',
    ⟨ds.length, by simp, Nat.zero_le _, [], [], μ1, a1, fun a ha => upd_ne (fun e => (z1.ax a ha).2 (e ▸ hL)), b1, upd_same, by simp [RepL], Nat.le_refl _, h1⟩, ?_⟩
  rintro i m H' ⟨rfl, hi, acc, accV, μ', f', xa', z', eL, l', len', h'⟩
  by_cases hlt : i < ds.length
  · refine .inr ⟨wk.go i H' μ' _ f' z' hlt, fun H5 => ∃ acc accV μ', Fm H1 μ1 x H5 μ' (addX x L) ∧ (∀ a, x a → H5 a = H1 a) ∧ ZH K H5 μ' (addX x L) ∧ H5 L = some (.lst accV) ∧ RepL K H5 μ' (addX x L) acc accV ∧ accV.length ≤ i + 1 ∧ zLcL zg zt ze (zwipe ρ vs) q acc (ds.drop (i + 1)) μ',
      fun H5 w5 => ⟨ds.length - (i + 1), by omega, rfl, hlt, w5⟩, fun v H'' y => ?_⟩
    rw [List.drop_eq_getElem_cons hlt] at h'
    obtain ⟨g3, z3, r3⟩ := wk.yld i H' μ' _ v H'' ds[i] f' z' (List.getElem?_eq_getElem hlt) y
    have J3 : ZInv K (wipe σ vs) H'' (zwipe ρ vs) μ' (addX x L) := (I1.mo (f'.trans g3.fz) z3).wipe vs
    refine ho v _ H'' _ _ (hg (addX x L) _ v _ H'' _ μ' _ (fun σ2 H2 => tt σ2 H2 fun b H3 => if b = true then te σ2 H3 fun y H4 => ∃ acc, H4 L = some (.lst acc) ∧ acc.length < sizeLine ∧ (∃ acc' accV μ', Fm H1 μ1 x (upd H4 L (.lst (acc ++ [y]))) μ' (addX x L) ∧ (∀ a, x a → (upd H4 L (.lst (acc ++ [y]))) a = H1 a) ∧ ZH K (upd H4 L (.lst (acc ++ [y]))) μ' (addX x L) ∧ (upd H4 L (.lst (acc ++ [y]))) L = some (.lst accV) ∧ RepL K (upd H4 L (.lst (acc ++ [y]))) μ' (addX x L) acc' accV ∧ accV.length ≤ i + 1 ∧ zLcL zg zt ze (zwipe ρ vs) q acc' (ds.drop (i + 1)) μ')
      else ∃ acc accV μ', Fm H1 μ1 x H3 μ' (addX x L) ∧ (∀ a, x a → H3 a = H1 a) ∧ ZH K H3 μ' (addX x L) ∧ H3 L = some (.lst accV) ∧ RepL K H3 μ' (addX x L) acc accV ∧ accV.length ≤ i + 1 ∧ zLcL zg zt ze (zwipe ρ vs) q acc (ds.drop (i + 1)) μ') J3 r3 h' fun σ2 H2 ρ2 μ2 g4 J4 h4 => ?_) fun σ2 H2 hw hq => ⟨hw.trans (wipe_idem vs vs fun _ h => h), hq⟩
    refine ht (addX x L) σ2 H2 ρ2 μ2 _ (fun _ _ _ => False) _ J4 wc0 h4 fun b H3 μ3 g5 z5 h5 => ?_
    have G3 : Grow H' μ' H3 μ3 (addX x L) := g3.trans (g4.trans g5)
    have eL3 : H3 L = some (.lst accV) := (G3.ax L (.inr rfl)).trans eL
    have xa3 : ∀ a, x a → H3 a = H1 a := fun a ha => (G3.ax a (.inl ha)).trans (xa' a ha)
    cases b with
    | false => exact iteF ⟨acc, accV, μ3, f'.trans G3.fz, xa3, z5, eL3, RepL.mono G3 _ _ l', Nat.le_succ_of_le len', h5⟩
    | true =>
      refine iteT (he (addX x L) σ2 H3 ρ2 μ3 _ (fun _ _ _ => False) _ (J4.grow g5 z5) wc0 h5 fun d y H4 μ4 g6 z6 r6 h6 => ?_)
      have G4 : Grow H' μ' H4 μ4 (addX x L) := G3.trans g6
      have eL4 : H4 L = some (.lst accV) := (G4.ax L (.inr rfl)).trans eL
      obtain ⟨f7, z7⟩ := z6.wside (.lst (accV ++ [y]))
      refine ⟨accV, eL4, by omega, acc ++ [d], accV ++ [y], μ4, f'.trans (Fm.trans G4.fz f7), fun a ha => ?_, z7, upd_same, (RepL.mo (Fm.trans G4.fz f7) _ _ l').append (RepL.one (r6.mo f7)), by simp; omega, h6⟩
      have ne : a ≠ L := fun e => by
        have := (z1.ax a ha).2
        rw [e] at this
        exact this hL
      rw [upd_ne ne]
      exact (G4.ax a (.inl ha)).trans (xa' a ha)
  · have ei : i = ds.length := by omega
    subst ei
    rw [List.drop_length] at h'
    refine .inl ⟨wk.stop H' μ' _ f' z', ?_⟩
    exact fin L acc accV H1 μ1 H' μ' g1 z1 hL f' xa' z' eL l' h'
theorem le_lc (hi : LI K W wi zi) (hg : LG K g zg) (ho : GOwn g vs) (ht : LT K W0 tt zt) (he : LE K W0 te ze) : LE K W (tLc wi g tt te vs) (zLc zi zg zt ze vs) := fun x σ H ρ μ q w Q I c h k =>
  lc_core hi hg ho ht he x σ H ρ μ q w Q I c h fun L acc accV H1 μ1 H' μ' g1 z1 hL f' xa' z' eL l' h' => by
    have g9 : Grow H μ H' μ' x := g1.trans ⟨f'.trans Fm.back, xa'⟩
    refine k (.lst acc) (.ref L) H' μ' g9 z'.back ?_ h'
    simp only [Rep]
    refine ⟨L, accV, rfl, ⟨.inl eL, rfl, (z'.ax L (.inr rfl)).1, fun e => (z1.ax L e).2 hL⟩, RepL.mo Fm.back _ _ l'⟩
/-- the list may change later -/
def zLcO (zi : ZI) (g : ZG) (c : ZB) (e : ZT) (vs : List Nat) : ZT := fun ρ μ q ex => zLc zi g c e vs ρ μ (fun d μ1 => match d with
  | .lst acc => ∀ p, μ1 p = none → q (.ref p) (updM μ1 p (.lst acc))
  | _ => False) ex
theorem le_lcO (hi : LI K W wi zi) (hg : LG K g zg) (ho : GOwn g vs) (ht : LT K W0 tt zt) (he : LE K W0 te ze) : LE K W (tLc wi g tt te vs) (zLcO zi zg zt ze vs) := fun x σ H ρ μ q w Q I c h k =>
  lc_core hi hg ho ht he x σ H ρ μ _ w Q I c h fun L acc accV H1 μ1 H' μ' g1 z1 hL f' xa' z' eL l' h' => by
    have nL : ∀ a u, Fz H1 μ1 x a u → a ≠ L := fun a u hu e => by
      have := hu.1
      rw [e, hL] at this
      rcases this with q | ⟨_, o, q⟩ <;> cases q
    have f2 : Fm H1 μ1 x H' (updM μ' L (.lst acc)) x := fun a u hu => by
      have h2 := Fm.back a u (f' a u hu)
      exact ⟨h2.1, h2.2.1, by rw [updM_ne (nL a u hu)]; exact h2.2.2.1, h2.2.2.2⟩
    have nX : ¬ x L := fun e => (z1.ax L e).2 hL
    have fX : Fm H' μ' (addX x L) H' (updM μ' L (.lst acc)) x := fun a u hu => by
      have ne : a ≠ L := fun e => hu.2.2.2 (.inr e)
      exact ⟨hu.1, hu.2.1, by rw [updM_ne ne]; exact hu.2.2.1, fun e => hu.2.2.2 (.inl e)⟩
    have zz : ZH K H' (updM μ' L (.lst acc)) x := by
      refine ⟨fun a c e => ?_, fun a ha => ?_⟩
      · by_cases hal : a = L
        · subst hal
          rw [updM_same] at e
          cases e
          exact ⟨accV, eL, RepL.mo fX _ _ l'⟩
        · rw [updM_ne hal] at e
          exact (z'.own a c e).mo fX rfl
      · have ne : a ≠ L := fun e => nX (e ▸ ha)
        rw [updM_ne ne]
        exact z'.ax a (.inl ha)
    have g9 : Grow H μ H' (updM μ' L (.lst acc)) x := g1.trans ⟨f2, xa'⟩
    exact k (.ref L) (.ref L) H' _ g9 zz rep_ref (h' L (z'.ax L (.inr rfl)).1)
end
structure ZPts (X : Cx) (W : WX) (ifs : List Expr) (t : TT) (z : ZB) : Prop where
  p : PTs X ifs t
  l : LT X.K W t z
section
variable {X : Cx} {W : WX} {c : Expr} {t : TT} {z : ZB}
theorem zptsnil : ZPts X W [] tYes zYes := ⟨pts_nil, lt_yes⟩
theorem zptsone (h : ZTe X W c t z) : ZPts X W [c] t z := ⟨pts_one h.p, h.l⟩
end
/-! readings of a block's parts: whatever block it is -/
def allE {ι : Sort _} (t : ι → TE) : TE := fun σ H Q => ∀ i, t i σ H Q
def allT {ι : Sort _} (t : ι → TT) : TT := fun σ H Q => ∀ i, t i σ H Q
def allG {ι : Sort _} (t : ι → TG) : TG := fun v σ H Q => ∀ i, t i v σ H Q
abbrev Bk (α : Type) := Shared → Hp → Addr → List (Str × Addr) → List Addr → α
def bkE (X : Cx) (k : Nat) (scope : Scope) (t : ∀ (s : Shared) (H : Hp) (C : Addr) (cl : List (Str × Addr)) (fp : List Addr), ZC (X.blk s H scope (compEnvC scope cl C X.env) fp) W0 k → TE) : TE :=
  fun σ H Q => ∀ s h C cl fp c, t s h C cl fp c σ H Q
def bkT (X : Cx) (k : Nat) (scope : Scope) (t : ∀ (s : Shared) (H : Hp) (C : Addr) (cl : List (Str × Addr)) (fp : List Addr), ZC (X.blk s H scope (compEnvC scope cl C X.env) fp) W0 k → TT) : TT :=
  fun σ H Q => ∀ s h C cl fp c, t s h C cl fp c σ H Q
def bkG (t : Bk TG) : TG := fun v σ H Q => ∀ s h C cl fp, t s h C cl fp v σ H Q
section
variable {X : Cx} {W : WX} {k : Nat} {elt tg iter : Expr} {ifs : List Expr} {scope : Scope} {own : List (Str × Nat)} {pos : Pos} {wi : TI} {zi : ZI} {zg : ZG} {zt : ZB} {ze : ZT} {g : Bk TG} {tt : ∀ (s : Shared) (H : Hp) (C : Addr) (cl : List (Str × Addr)) (fp : List Addr), ZC (X.blk s H scope (compEnvC scope cl C X.env) fp) W0 k → TT} {te : ∀ (s : Shared) (H : Hp) (C : Addr) (cl : List (Str × Addr)) (fp : List Addr), ZC (X.blk s H scope (compEnvC scope cl C X.env) fp) W0 k → TE}
/-- within a comprehension nothing is raised -/
theorem ZC.blk (cx : ZC X W k) (s : Shared) (H : Hp) (scope : Scope) (ce : Env) (fp : List Addr) : ZC (X.blk s H scope ce fp) W0 k := ⟨cx.calm, cx.nd, cx.room, takes0, PassesOwn.never⟩
theorem bk_pg (hg : ∀ (s : Shared) (H : Hp) (C : Addr) (cl : List (Str × Addr)) (fp : List Addr), ZPg (X.blk s H scope (compEnvC scope cl C X.env) fp) tg (g s H C cl fp) zg) (s : Shared) (H : Hp) (C : Addr) (cl : List (Str × Addr)) (fp : List Addr) : PG (X.blk s H scope (compEnvC scope cl C X.env) fp) tg (bkG g) :=
  ⟨fun pins s' σ H' v u Q I r hw => (hg s H C cl fp).p.run pins s' σ H' v u Q I r (hw s H C cl fp)⟩
theorem bk_pt (cx : ZC X W k) (ht : ∀ (s : Shared) (H : Hp) (C : Addr) (cl : List (Str × Addr)) (fp : List Addr) (c : ZC (X.blk s H scope (compEnvC scope cl C X.env) fp) W0 k), ZPts (X.blk s H scope (compEnvC scope cl C X.env) fp) W0 ifs (tt s H C cl fp c) zt) (s : Shared) (H : Hp) (C : Addr) (cl : List (Str × Addr)) (fp : List Addr) : PTs (X.blk s H scope (compEnvC scope cl C X.env) fp) ifs (bkT X k scope tt) :=
  ⟨fun pins s' σ H' Q I h => (ht s H C cl fp (cx.blk _ _ _ _ _)).p.run pins s' σ H' Q I (h s H C cl fp _)⟩
theorem bk_pe (cx : ZC X W k) (he : ∀ (s : Shared) (H : Hp) (C : Addr) (cl : List (Str × Addr)) (fp : List Addr) (c : ZC (X.blk s H scope (compEnvC scope cl C X.env) fp) W0 k), ZE (X.blk s H scope (compEnvC scope cl C X.env) fp) W0 elt (te s H C cl fp c) ze) (s : Shared) (H : Hp) (C : Addr) (cl : List (Str × Addr)) (fp : List Addr) : PE (X.blk s H scope (compEnvC scope cl C X.env) fp) elt (bkE X k scope te) :=
  ⟨fun pins s' σ H' Q I h => (he s H C cl fp (cx.blk _ _ _ _ _)).p.run pins s' σ H' Q I (h s H C cl fp _)⟩
theorem bk_lg (hg : ∀ (s : Shared) (H : Hp) (C : Addr) (cl : List (Str × Addr)) (fp : List Addr), ZPg (X.blk s H scope (compEnvC scope cl C X.env) fp) tg (g s H C cl fp) zg) : LG X.K (bkG g) zg := fun x d v σ H ρ μ k k' I r h hk s0 H0 C cl fp => (hg s0 H0 C cl fp).l x d v σ H ρ μ k k' I r h hk
theorem bk_own (ho : ∀ (s : Shared) (H : Hp) (C : Addr) (cl : List (Str × Addr)) (fp : List Addr), GOwn (g s H C cl fp) (own.map (·.2))) : GOwn (bkG g) (own.map (·.2)) := fun v σ H k k' q f s0 H0 C cl fp => ho s0 H0 C cl fp v σ H k k' (q s0 H0 C cl fp) f
theorem bk_lt (ht : ∀ (s : Shared) (H : Hp) (C : Addr) (cl : List (Str × Addr)) (fp : List Addr) (c : ZC (X.blk s H scope (compEnvC scope cl C X.env) fp) W0 k), ZPts (X.blk s H scope (compEnvC scope cl C X.env) fp) W0 ifs (tt s H C cl fp c) zt) : LT X.K W0 (bkT X k scope tt) zt := fun x σ H ρ μ q w Q I c h kk s0 H0 C cl fp cc => (ht s0 H0 C cl fp cc).l x σ H ρ μ q w Q I c h kk
theorem bk_le (he : ∀ (s : Shared) (H : Hp) (C : Addr) (cl : List (Str × Addr)) (fp : List Addr) (c : ZC (X.blk s H scope (compEnvC scope cl C X.env) fp) W0 k), ZE (X.blk s H scope (compEnvC scope cl C X.env) fp) W0 elt (te s H C cl fp c) ze) : LE X.K W0 (bkE X k scope te) ze := fun x σ H ρ μ q w Q I c h kk s0 H0 C cl fp cc => (he s0 H0 C cl fp cc).l x σ H ρ μ q w Q I c h kk
theorem zlc (cx : ZC X W k) (hi : ZPi X W tg iter wi zi) (ok : BlkOk X.N X.env.scope scope own)
    (hg : ∀ (s : Shared) (H : Hp) (C : Addr) (cl : List (Str × Addr)) (fp : List Addr), ZPg (X.blk s H scope (compEnvC scope cl C X.env) fp) tg (g s H C cl fp) zg) (ho : ∀ (s : Shared) (H : Hp) (C : Addr) (cl : List (Str × Addr)) (fp : List Addr), GOwn (g s H C cl fp) (own.map (·.2)))
    (ht : ∀ (s : Shared) (H : Hp) (C : Addr) (cl : List (Str × Addr)) (fp : List Addr) (c : ZC (X.blk s H scope (compEnvC scope cl C X.env) fp) W0 k), ZPts (X.blk s H scope (compEnvC scope cl C X.env) fp) W0 ifs (tt s H C cl fp c) zt)
    (he : ∀ (s : Shared) (H : Hp) (C : Addr) (cl : List (Str × Addr)) (fp : List Addr) (c : ZC (X.blk s H scope (compEnvC scope cl C X.env) fp) W0 k), ZE (X.blk s H scope (compEnvC scope cl C X.env) fp) W0 elt (te s H C cl fp c) ze) (hs : ∀ x, foldedSetIterable iter X.env x = pure x := by intro _; rfl) :
    ZE X W (.ListComp elt [⟨tg, iter, ifs, 0⟩] scope pos) (tLc wi (bkG g) (bkT X k scope tt) (bkE X k scope te) (own.map (·.2))) (zLc zi zg zt ze (own.map (·.2))) :=
  ⟨pe_lc cx.calm cx.nd hi.p ok (bk_pg hg) (bk_pt cx ht) (bk_pe cx he) hs,
    le_lc hi.l (bk_lg hg) (bk_own ho) (bk_lt ht) (bk_le he)⟩
theorem zlcO (cx : ZC X W k) (hi : ZPi X W tg iter wi zi) (ok : BlkOk X.N X.env.scope scope own)
    (hg : ∀ (s : Shared) (H : Hp) (C : Addr) (cl : List (Str × Addr)) (fp : List Addr), ZPg (X.blk s H scope (compEnvC scope cl C X.env) fp) tg (g s H C cl fp) zg) (ho : ∀ (s : Shared) (H : Hp) (C : Addr) (cl : List (Str × Addr)) (fp : List Addr), GOwn (g s H C cl fp) (own.map (·.2)))
    (ht : ∀ (s : Shared) (H : Hp) (C : Addr) (cl : List (Str × Addr)) (fp : List Addr) (c : ZC (X.blk s H scope (compEnvC scope cl C X.env) fp) W0 k), ZPts (X.blk s H scope (compEnvC scope cl C X.env) fp) W0 ifs (tt s H C cl fp c) zt)
    (he : ∀ (s : Shared) (H : Hp) (C : Addr) (cl : List (Str × Addr)) (fp : List Addr) (c : ZC (X.blk s H scope (compEnvC scope cl C X.env) fp) W0 k), ZE (X.blk s H scope (compEnvC scope cl C X.env) fp) W0 elt (te s H C cl fp c) ze) (hs : ∀ x, foldedSetIterable iter X.env x = pure x := by intro _; rfl) :
    ZE X W (.ListComp elt [⟨tg, iter, ifs, 0⟩] scope pos) (tLc wi (bkG g) (bkT X k scope tt) (bkE X k scope te) (own.map (·.2))) (zLcO zi zg zt ze (own.map (·.2))) :=
  ⟨(zlc cx hi ok hg ho ht he hs).p,
    le_lcO hi.l (bk_lg hg) (bk_own ho) (bk_lt ht) (bk_le he)⟩
theorem zsetLc (i : Nat) {y : Str} {py spos : Pos} (cx : ZC X W k) (hi : ZPi X W tg iter wi zi) (ok : BlkOk X.N X.env.scope scope own)
    (hg : ∀ (s : Shared) (H : Hp) (C : Addr) (cl : List (Str × Addr)) (fp : List Addr), ZPg (X.blk s H scope (compEnvC scope cl C X.env) fp) tg (g s H C cl fp) zg) (ho : ∀ (s : Shared) (H : Hp) (C : Addr) (cl : List (Str × Addr)) (fp : List Addr), GOwn (g s H C cl fp) (own.map (·.2)))
    (ht : ∀ (s : Shared) (H : Hp) (C : Addr) (cl : List (Str × Addr)) (fp : List Addr) (c : ZC (X.blk s H scope (compEnvC scope cl C X.env) fp) W0 k), ZPts (X.blk s H scope (compEnvC scope cl C X.env) fp) W0 ifs (tt s H C cl fp c) zt)
    (he : ∀ (s : Shared) (H : Hp) (C : Addr) (cl : List (Str × Addr)) (fp : List Addr) (c : ZC (X.blk s H scope (compEnvC scope cl C X.env) fp) W0 k), ZE (X.blk s H scope (compEnvC scope cl C X.env) fp) W0 elt (te s H C cl fp c) ze)
    (hsw : swapsWith (.ListComp elt [⟨tg, iter, ifs, 0⟩] scope pos) (some (.Name y py)) spos.line X.env = pure true) (hy : X.N[i]? = some y := by rfl) (hyl : X.env.scope.names.lookup y = some .local := by rfl) (hs : ∀ x, foldedSetIterable iter X.env x = pure x := by intro _; rfl) :
    ZSt X W (.Assign [.Name y py] (.ListComp elt [⟨tg, iter, ifs, 0⟩] scope pos) spos) (tAsg (tLc wi (bkG g) (bkT X k scope tt) (bkE X k scope te) (own.map (·.2))) (gName i)) (zAsg (zLc zi zg zt ze (own.map (·.2))) (zgName i)) :=
  ⟨ps_setLc cx.calm cx.nd hy hyl hsw hi.p ok (bk_pg hg) (bk_pt cx ht) (bk_pe cx he) hs,
    ls_asg (le_lc hi.l (bk_lg hg) (bk_own ho) (bk_lt ht) (bk_le he)) lg_name⟩
end

/-! ### a def keeps its promise -/
def startZ (n : Nat) (ds : List D) : Sl := ds.map some ++ List.replicate (n - ds.length) none
/-- what a body's reading is asked for -/
def zBody (n : Nat) (z : ZS) : Zp := fun ds μ q e => z { nx := fun _ μ' => q .non μ', rt := q, ex := fun r _ μ' => e r μ' } (startZ n ds) μ
section
variable {P : Program} {w : World} {K : PySem.W.Frag} {mg : Str → Option Value} {base : Heap}
theorem start_zinv {N : List Str} {x : Ax} {H : Hp} {μ : Mu} {ds : List D} {vs : List V} (z : ZH K H μ x) (r : RepL K H μ x ds vs) : ZInv K (L2.start N vs) H (startZ N.length ds) μ x := by
  have hl := r.length
  refine ⟨by simp [L2.start, startZ, hl], fun i d h => ?_, z⟩
  unfold startZ at h
  unfold L2.start
  by_cases hi : i < ds.length
  · rw [List.getElem?_append_left (by simpa using hi), List.getElem?_map] at h
    cases e : ds[i]? with
    | none => rw [e] at h; cases h
    | some d' =>
      rw [e] at h
      cases h
      obtain ⟨v, e1, r1⟩ := r.get e
      refine ⟨v, ?_, r1⟩
      rw [List.getElem?_append_left (by simp; omega), List.getElem?_map, e1]
      rfl
  · rw [List.getElem?_append_right (by simpa using hi), List.getElem?_replicate] at h
    split at h <;> cases h
theorem zfun {x qual : Str} {st : Stmt} {f : Addr} {fd : FuncData} {N ps : List Str} {k : Nat} {S : Zp} {z : ZS} (F : Fun K x qual st f fd) (Sc : FnScope N ps (defScope st)) (hS : ∀ ds μ q e, S ds μ q e → zBody N.length z ds μ q e)
    (hb : ∀ (cdv : Value) (A : Around) (outer : List Env) (s : Shared) (H : Hp) (E : XK), ZC (cxOf (L2.CX P w) P w K mg base N qual (defScope st) f cdv A outer s H E) (fun cls d _ H => E cls d H) k →
      ∃ t, ZSs (cxOf (L2.CX P w) P w K mg base N qual (defScope st) f cdv A outer s H E) (fun cls d _ H => E cls d H) (defBody st) t z) :
    FnOk P w K mg base (L2.CX P w) (k + 1) f fd ps (spOf K ps.length S) := by
  refine F.okX Sc (fun vs H Q E h => h.1) fun cdv A outer s H vs Q E hr h => ?_
  obtain ⟨hl, x, ds, μ, q, e, zh, r, hs, pq, pe⟩ := h
  obtain ⟨t, p⟩ := hb cdv A outer s H E ⟨rfl, Sc.nd, hr, takes_of rfl rfl rfl rfl, passes_of rfl⟩
  refine ⟨t, p.p, ?_⟩
  refine p.l x (L2.start N vs) H (startZ N.length ds) μ _ _ (start_zinv zh r) (fun σ' H' ρ' μ' cls dd rr g I er hw => pe rr cls dd H' μ' g I.zh er hw) (hS ds μ q e hs) ⟨fun σ' H' ρ' μ' g I hq => pq .non .non H' μ' g I.zh rep_non hq, pq, fun _ _ _ _ _ _ h => h, fun _ _ _ _ _ _ h => h⟩
/-- with no calls left nothing is promised -/
theorem fn0 {f : Addr} {fd : FuncData} {ps : List Str} {n : Nat} (hn : n = ps.length := by rfl) : FnOk P w K mg base (L2.CX P w) 0 f fd ps (spOf K n fun _ _ _ _ => False) :=
  ⟨fun vs H Q E h => h.1.trans hn, fun A outer s H args us vs Q E _ _ _ _ h => by obtain ⟨_, _, _, _, _, _, _, _, z, _⟩ := h; exact z.elim⟩
end
end Z
namespace Z
open PySem L2
/-! ### defs by their names -/
section
variable (P : Program) (w : World) (K : PySem.W.Frag) (mg : Str → Option Value) (base : Heap)
/-- the def st of the text stands under the name x -/
def Def (x : Str) (st : Stmt) (ps : List Str) : Prop := ∃ (f : Addr) (fd : FuncData), Fun K x x st f fd ∧ mg x = some (.ref f) ∧ Binds K fd ps []
/-- what is called by the name x keeps the promise S -/
def Cal (k : Nat) (x : Str) (ps : List Str) (S : Zp) : Prop := ∃ (f : Addr) (fd : FuncData), FnOk P w K mg base (L2.CX P w) k f fd ps (spOf K ps.length S) ∧ mg x = some (.ref f) ∧ PySem.W.keepIn K (.ref f) = true ∧ Binds K fd ps []
end
section
variable {P : Program} {w : World} {K : PySem.W.Frag} {mg : Str → Option Value} {base : Heap} {x : Str} {ps : List Str} {S S' : Zp} {k j : Nat} {st : Stmt}
theorem Cal.mono (h : Cal P w K mg base j x ps S) (hj : j ≤ k) : Cal P w K mg base k x ps S := by
  obtain ⟨f, fd, F, r⟩ := h
  exact ⟨f, fd, F.mono hj, r⟩
theorem Cal.imp (h : Cal P w K mg base k x ps S) (hs : ∀ ds μ q e, S' ds μ q e → S ds μ q e) : Cal P w K mg base k x ps S' := by
  obtain ⟨f, fd, F, r⟩ := h
  refine ⟨f, fd, F.imp fun vs H Q E z => ?_, r⟩
  obtain ⟨hl, x, ds, μ, q, e, zh, rr, hS, pq, pe⟩ := z
  exact ⟨hl, x, ds, μ, q, e, zh, rr, hs _ _ _ _ hS, pq, pe⟩
theorem Cal.zero (h : Def K mg x st ps) : Cal P w K mg base 0 x ps (fun _ _ _ _ => False) := by
  obtain ⟨f, fd, F, m, b⟩ := h
  exact ⟨f, fd, fn0, m, F.kp, b⟩
theorem Cal.mk {N : List Str} {z : ZS} (h : Def K mg x st ps) (Sc : FnScope N ps (defScope st))
    (hb : ∀ (f : Addr) (cdv : Value) (A : Around) (outer : List Env) (s : Shared) (H : Hp) (E : XK), ZC (cxOf (L2.CX P w) P w K mg base N x (defScope st) f cdv A outer s H E) (fun cls d _ H => E cls d H) k →
      ∃ t, ZSs (cxOf (L2.CX P w) P w K mg base N x (defScope st) f cdv A outer s H E) (fun cls d _ H => E cls d H) (defBody st) t z) :
    Cal P w K mg base (k + 1) x ps (zBody N.length z) := by
  obtain ⟨f, fd, F, m, b⟩ := h
  exact ⟨f, fd, zfun F Sc (fun _ _ _ _ h => h) (hb f), m, F.kp, b⟩
end
section
variable {X : Cx} {W : WX} {k n : Nat} {ps : List Str} {S : Zp} {x : Str} {p pos : Pos} {e : Expr} {es : List Expr} {tas : TA} {zas : ZA}
theorem zcal (c : ZC X W k) (C : Cal X.prog X.w X.K X.mg X.base k x ps S) (ha : ZAr X W n (e :: es) tas zas) (hn : n = ps.length := by rfl)
    (hg : Gl X x := by rfl) (hdb : (x == ("__debug__" : Str)) = false := by decide) (he : starEach (e :: es) X.env = (false, eval e X.env) :: starEach es X.env := by rfl) (hpl : (backTo pos (starEach es X.env)).any (·.1) = false := by rfl) :
    ZE X W (.Call (.Name x p) (e :: es) [] pos) (tCallS (spOf X.K n S) (WE W) tas) (zCall S zas) := by
  obtain ⟨f, fd, F, m, kp, b⟩ := C
  subst hn
  exact zcall c F m kp b ha (Nat.le_refl k) hg hdb he hpl
theorem zcal0 (c : ZC X W k) (C : Cal X.prog X.w X.K X.mg X.base k x [] S) (hg : Gl X x := by rfl) (hdb : (x == ("__debug__" : Str)) = false := by decide) :
    ZE X W (.Call (.Name x p) [] [] pos) (tCall (spOf X.K 0 S) [] E0 tNil) (zCall0 S) := by
  obtain ⟨f, fd, F, m, kp, b⟩ := C
  exact zcall0 c F m kp b (Nat.le_refl k) hg hdb
theorem zglobI {i : Int} (h : ∃ t, X.mg x = some (.int i t)) (hg : Gl X x := by rfl) (hd : (x == ("__debug__" : Str)) = false := by decide) : ZE X W (.Name x pos) (tC (.int i)) (zC (.int i)) := by
  obtain ⟨t, h⟩ := h
  exact zglob hg h ⟨t, rfl⟩ (fun _ _ _ => rep_int) hd
theorem zglobS {i : Str} (h : ∃ t, X.mg x = some (.str i t)) (hg : Gl X x := by rfl) (hd : (x == ("__debug__" : Str)) = false := by decide) : ZE X W (.Name x pos) (tC (.str i)) (zC (.str i)) := by
  obtain ⟨t, h⟩ := h
  exact zglob hg h ⟨t, rfl⟩ (fun _ _ _ => rep_str) hd
end
end Z

set_option maxRecDepth 100000
set_option maxHeartbeats 4000000
namespace Z
open PySem PySem.Spec PyProof.Rows L2
/-! ### is not; times -/
theorem op_isNotAll {X : Cx} : OpR X (compareOp .IsNot) rNotAll := op_notN.or op_notBl
def rMulAll : R2 := fun x y H Q => rI CMulW (fun i j => .int (i * j)) x y H Q ∨ rRep x y H Q
theorem op_mulAll {X : Cx} : OpR X (binaryOp .Mult) rMulAll := op_mulW.or op_rep
def zMul : F2 := fun a b μ q => match a, b with
  | .int i, .int j => CMulW i j ∧ q (.int (i * j)) μ
  | _, _ => False
theorem lf_mulAll {K : PySem.W.Frag} : Lf2 K rMulAll zMul := fun x H μ d e v u q Q z r1 r2 h p => by
  unfold zMul at h
  split at h
  · exact .inl ⟨_, _, r1.int, r2.int, h.1, p.here z rep_int h.2⟩
  · exact h.elim
/-! ### tables of the module -/
/-- x is a written dict from texts to ints -/
def CKD (K : PySem.W.Frag) (w : World) (mg : Str → Option Value) (x : Str) (kvs : List (Str × Int)) : Prop := ∃ (d : Addr) (es : Array DictEntry) (n : Nat), mg x = some (.ref d) ∧ KDict K w d es n ∧
  ∀ z, match kvs.lookup z with
    | some i => ∃ t, PySem.W.nsIn K d z = some (some (.int i t))
    | none => PySem.W.nsIn K d z = some none
/-- x is a written tuple of texts -/
def CKT (K : PySem.W.Frag) (mg : Str → Option Value) (x : Str) (xs : List Str) : Prop := ∃ (a : Addr), mg x = some (.ref a) ∧ KT' K a (xs.map V.str)
def zInK (kvs : List (Str × Int)) : F1 := fun d μ q => match d with
  | .str z => q (.bl (kvs.lookup z).isSome) μ
  | _ => False
def zNotInK (kvs : List (Str × Int)) : F1 := fun d μ q => match d with
  | .str z => q (.bl (!(kvs.lookup z).isSome)) μ
  | _ => False
def zIxK (kvs : List (Str × Int)) : F1 := fun d μ q => match d with
  | .str z => match kvs.lookup z with
    | some i => q (.int i) μ
    | none => False
  | _ => False
section
variable {X : Cx} {W : WX} {e : Expr} {te : TE} {ze : ZT} {pos p : Pos} {x : Str} {kvs : List (Str × Int)}
theorem le_kd {K : PySem.W.Frag} {r : R2} {f : F1} {u : V} (hr : ∀ H μ x d v q Q, ZH K H μ x → Rep K H μ x d v → f d μ q → Post K H μ x q Q → r v u H Q) (l : LE K W te ze) : LE K W (tOp r te (tC u)) (zUn f ze) := fun x σ H ρ μ q w Q I c h k =>
  l x σ H ρ μ _ w _ I c h fun d v H1 μ1 g1 z1 r1 h1 => hr H1 μ1 x d v q Q z1 r1 h1 fun d v H' μ' g => k d v H' μ' (g1.trans g)
theorem zcmpIn (C : CKD X.K X.w X.mg x kvs) (he : ZE X W e te ze) (hg : Gl X x := by rfl) (hd : (x == ("__debug__" : Str)) = false := by decide) (hm : behindInMarks .In (.Name x p) = false := by rfl) : ∃ t, ZE X W (.Compare e [.In] [.Name x p] pos) t (zUn (zInK kvs) ze) := by
  obtain ⟨d, es, n, m, D, hv⟩ := C
  refine ⟨_, pe_cmpR (op_in_kd D) he.p (pe_glob hg m (show RelV (.ref d) (.ref d) from rfl) hd) hm, le_kd (fun H μ x d v q Q z r h p => ?_) he.l⟩
  unfold zInK at h
  split at h
  · rename_i s
    have := hv s
    cases q1 : kvs.lookup s with
    | none => rw [q1] at this h; exact ⟨s, _, r.str, rfl, this, p.here z rep_bl h⟩
    | some i =>
      rw [q1] at this h
      obtain ⟨t, this⟩ := this
      exact ⟨s, _, r.str, rfl, this, p.here z rep_bl h⟩
  · exact h.elim
theorem zcmpNotIn (C : CKD X.K X.w X.mg x kvs) (he : ZE X W e te ze) (hg : Gl X x := by rfl) (hd : (x == ("__debug__" : Str)) = false := by decide) (hm : behindInMarks .NotIn (.Name x p) = false := by rfl) : ∃ t, ZE X W (.Compare e [.NotIn] [.Name x p] pos) t (zUn (zNotInK kvs) ze) := by
  obtain ⟨d, es, n, m, D, hv⟩ := C
  refine ⟨_, pe_cmpR (op_notIn_kd D) he.p (pe_glob hg m (show RelV (.ref d) (.ref d) from rfl) hd) hm, le_kd (fun H μ x d v q Q z r h p => ?_) he.l⟩
  unfold zNotInK at h
  split at h
  · rename_i s
    have := hv s
    cases q1 : kvs.lookup s with
    | none => rw [q1] at this h; exact ⟨s, _, r.str, rfl, this, p.here z rep_bl h⟩
    | some i =>
      rw [q1] at this h
      obtain ⟨t, this⟩ := this
      exact ⟨s, _, r.str, rfl, this, p.here z rep_bl h⟩
  · exact h.elim
theorem zx {z : ZT} (h : ∃ t, ZE X W e t z) : ZE X W e h.choose z := h.choose_spec
theorem ztx {z : ZB} (h : ∃ t, ZTe X W e t z) : ZTe X W e h.choose z := h.choose_spec
theorem zcmpInT (C : CKD X.K X.w X.mg x kvs) (he : ZE X W e te ze) (hg : Gl X x := by rfl) (hd : (x == ("__debug__" : Str)) = false := by decide) (hm : behindInMarks .In (.Name x p) = false := by rfl) : ∃ t, ZTe X W (.Compare e [.In] [.Name x p] pos) t (zTst (zUn (zInK kvs) ze)) := by
  obtain ⟨d, es, n, m, D, hv⟩ := C
  refine ⟨_, pt_cmpR (op_in_kd D) he.p (pe_glob hg m (show RelV (.ref d) (.ref d) from rfl) hd) hm, lt_tst (le_kd (fun H μ x d v q Q z r h p => ?_) he.l)⟩
  unfold zInK at h
  split at h
  · rename_i s
    have := hv s
    cases q1 : kvs.lookup s with
    | none => rw [q1] at this h; exact ⟨s, _, r.str, rfl, this, p.here z rep_bl h⟩
    | some i =>
      rw [q1] at this h
      obtain ⟨t, this⟩ := this
      exact ⟨s, _, r.str, rfl, this, p.here z rep_bl h⟩
  · exact h.elim
/-- the written tuple as a value -/
theorem zglobT {xs : List Str} (C : CKT X.K X.mg x xs) (hg : Gl X x := by rfl) (hd : (x == ("__debug__" : Str)) = false := by decide) : ∃ t, ZE X W (.Name x pos) t (zC (.tup (xs.map D.str))) := by
  obtain ⟨a, m, kt⟩ := C
  refine ⟨_, zglob (v := .ref a) hg m (show RelV (.ref a) (.ref a) from rfl) (fun H μ y => ?_) hd⟩
  simp only [Rep]
  refine ⟨a, xs.map V.str, rfl, .inr kt, ?_⟩
  clear kt
  induction xs with
  | nil => simp [RepL]
  | cons s r ih => simp only [List.map_cons, RepL]; exact ⟨_, _, rfl, rep_str, ih⟩
end
/-- the subscript of a written dict -/
theorem ix_kd {X : Cx} {d : Addr} {es : Array DictEntry} {n : Nat} (D : KDict X.K X.w d es n) : IxR X (fun x y H Q => ∃ (z : Str) (u0 : Value) (v0 : V), x = .ref d ∧ y = .str z ∧ PySem.W.nsIn X.K d z = some (some u0) ∧ RelV v0 u0 ∧ Q v0 H) := by
  intro value slice pins s σ H x y v u Q I rx ry h hs
  obtain ⟨z, u0, v0, rfl, rfl, e1, r0, q⟩ := h
  obtain rfl : v = Value.ref d := rx
  have hT := kd_type D I
  unfold subscriptTail
  refine wpAny_bind ?_
  rw [getitemInPython_of_ne hT.not_modules]
  refine wpAny_bind (wpAny_specialOf hT PySem.F.slot_dict_getitem.lookup ?_)
  have fin : wpAny (model X.prog X.w) X.A (subscripted slice false (.ref d) u) (fun r s₃ => wpAny (model X.prog X.w) X.A (letTemporaryGo value (.ref d) r >>= fun _ => pure r) (EP X pins σ Q) X.xe s₃) X.xe s := by
    rw [hs]
    exact wpAny_operating (thn (op_item_kd D pins s σ H (.ref d) (.str z) (.ref d) u (fun y H' => y = v0 ∧ Q v0 H') I rfl ry ⟨z, u0, v0, rfl, rfl, e1, r0, rfl, q⟩) fun w' s3 ⟨y, H3, I3, rw', ey, q3⟩ => by
      subst ey
      exact wpAny_bind (wpAny_letTemporaryGo (wpAny_pure ⟨y, H3, I3, rw', q3⟩)))
  first
    | exact wpAny_pure (wpAny_bind fin)
    | exact wpAny_bind (wpAny_pure (wpAny_bind fin))
    | exact wpAny_bind fin
section
variable {X : Cx} {W : WX} {e : Expr} {te : TE} {ze : ZT} {pos p : Pos} {x : Str} {kvs : List (Str × Int)}
theorem le_kdL {K : PySem.W.Frag} {r : R2} {f : F1} {u : V} (hr : ∀ H μ x d v q Q, ZH K H μ x → Rep K H μ x d v → f d μ q → Post K H μ x q Q → r u v H Q) (l : LE K W te ze) : LE K W (tOp r (tC u) te) (zUn f ze) := fun x σ H ρ μ q w Q I c h k =>
  l x σ H ρ μ _ w _ I c h fun d v H1 μ1 g1 z1 r1 h1 => hr H1 μ1 x d v q Q z1 r1 h1 fun d v H' μ' g => k d v H' μ' (g1.trans g)
theorem zixK (C : CKD X.K X.w X.mg x kvs) (he : ZE X W e te ze) (hs : PlainIx e := by exact fun _ _ => rfl) (hg : Gl X x := by rfl) (hd : (x == ("__debug__" : Str)) = false := by decide) : ∃ t, ZE X W (.Subscript (.Name x p) e pos) t (zUn (zIxK kvs) ze) := by
  obtain ⟨d, es, n, m, D, hv⟩ := C
  refine ⟨_, pe_ix (ix_kd D) (pe_glob hg m (show RelV (.ref d) (.ref d) from rfl) hd) he.p hs, le_kdL (fun H μ x d v q Q z r h p => ?_) he.l⟩
  unfold zIxK at h
  split at h
  · rename_i s
    have := hv s
    cases q1 : kvs.lookup s with
    | none => rw [q1] at h; exact h.elim
    | some i =>
      rw [q1] at this h
      obtain ⟨t, this⟩ := this
      exact ⟨s, _, .int i, rfl, r.str, this, ⟨t, rfl⟩, p.here z rep_int h⟩
  · exact h.elim
end
/-! ### from what the head reads -/
theorem nsIn_key {K : PySem.W.Frag} {P : Params} {a : Addr} {ks : List Str} {z : Str} (h : He.dicW K a = some (He.keysIn P ks)) (hz : z ∉ ks) : PySem.W.nsIn K a z = some none := by
  unfold He.dicW at h
  unfold PySem.W.nsIn
  cases q : K.lookup a with
  | none => rw [q] at h; cases h
  | some o =>
    obtain ⟨oc, od, dt, osl⟩ := o
    rw [q] at h
    cases oc with
    | type c =>
      cases od with
      | none =>
        cases dt with
        | dict es n =>
          have h1 : (match decide (c = "dict") && (osl.isEmpty && !(a == sysModules)) with
            | true => some (es.toList.map He.keyOf)
            | false => none) = some (He.keysIn P ks) := h
          split at h1
          · have h2 := Option.some.inj h1
            have key : ∀ (l : List DictEntry) (ks : List Str), l.map He.keyOf = He.keysIn P ks → z ∉ ks → l.find? (·.key.isStr z) = none ∧ l.any (·.refKey) = false := by
              intro l
              induction l with
              | nil => intro ks _ _; exact ⟨rfl, rfl⟩
              | cons e r ih =>
                intro ks hk hn
                cases ks with
                | nil => cases hk
                | cons k ks =>
                  have h3 : He.keyOf e :: r.map He.keyOf = some (k, PyData.keyHash P k) :: He.keysIn P ks := hk
                  injection h3 with h4 h5
                  obtain ⟨i1, i2⟩ := ih ks h5 (fun m => hn (List.mem_cons_of_mem _ m))
                  unfold He.keyOf at h4
                  split at h4
                  · rename_i y t ey
                    obtain ⟨h6, _⟩ := Prod.mk.inj (Option.some.inj h4)
                    have ne : e.key.isStr z = false := by
                      rw [ey]
                      show (y == z) = false
                      rw [h6]
                      exact beq_eq_false_iff_ne.mpr fun e => hn (e ▸ List.mem_cons_self)
                    have nr : e.refKey = false := by unfold DictEntry.refKey; rw [ey]
                    exact ⟨by rw [List.find?_cons, ne]; exact i1, by rw [List.any_cons, nr, i2]; rfl⟩
                  · cases h4
            obtain ⟨k1, k2⟩ := key es.toList ks h2 hz
            show (match es.toList.find? (·.key.isStr z) with
              | some e => some (some e.val)
              | none => if es.toList.any (·.refKey) then none else some none) = some none
            rw [k1, k2]
            rfl
          · cases h1
        | _ => cases h
      | some b => cases dt <;> cases h
    | _ => cases od <;> cases dt <;> cases h
theorem lookup_none {z : Str} : ∀ {kvs : List (Str × Int)}, kvs.lookup z = none → z ∉ kvs.map Prod.fst
  | [], _ => by simp
  | (k, i) :: r, h => by
    simp only [List.lookup] at h
    split at h
    · cases h
    · rename_i e
      have ne : z ≠ k := by simpa using e
      simp only [List.map_cons, List.mem_cons, not_or]
      exact ⟨ne, lookup_none h⟩
theorem lookup_mem {z : Str} {i : Int} : ∀ {kvs : List (Str × Int)}, kvs.lookup z = some i → (z, i) ∈ kvs
  | [], h => by cases h
  | (k, j) :: r, h => by
    simp only [List.lookup] at h
    split at h
    · rename_i e
      have ez : z = k := by simpa using e
      cases h
      rw [ez]
      exact List.mem_cons_self
    · exact List.mem_cons_of_mem _ (lookup_mem h)
def dvs (kvs : List (Str × Int)) : List (Str × He.Dv) := kvs.map fun q => (q.1, He.Dv.int q.2)
theorem ckd_of {K : PySem.W.Frag} {w : World} {h : Heap} {mg : Str → Option Value} {x : Str} {kvs : List (Str × Int)} (X : K.In h) (G : h.Ns mainGlobals mg) (hx : (He.Fa.glo x).ok K = true) (hk : He.dicW K (He.ga K x) = some (He.keysIn w.params (kvs.map Prod.fst)))
    (hv : He.valsB K (He.ga K x) (dvs kvs) = true) : CKD K w mg x kvs := by
  obtain ⟨es, n, D⟩ := He.dicW_ok hk
  refine ⟨_, es, n, He.glo_ok X G hx, D, fun z => ?_⟩
  cases q : kvs.lookup z with
  | none => exact nsIn_key hk (lookup_none q)
  | some i =>
    obtain ⟨u, e, r⟩ := He.valsB_ok hv (q := (z, He.Dv.int i)) (List.mem_map.mpr ⟨(z, i), lookup_mem q, rfl⟩)
    obtain ⟨t, rfl⟩ := r
    exact ⟨t, e⟩
theorem ckt_of {K : PySem.W.Frag} {h : Heap} {mg : Str → Option Value} {x : Str} {xs : List Str} (X : K.In h) (G : h.Ns mainGlobals mg) (hx : (He.Fa.glo x).ok K = true) (hv : He.tupB K x (xs.map He.Dv.str) = true) : CKT K mg x xs := by
  refine ⟨_, He.glo_ok X G hx, ?_⟩
  have := He.tupB_ok hv (fun _ => none)
  rw [List.map_map] at this
  rcases this with (q | ⟨o, q⟩) | q
  · cases q
  · cases q
  · exact q
/-- a def of the module, from what the head reads -/
def dd (x : Str) (st : Stmt) : He.DefD := ⟨(x, none), x, x, defArgs st, defBody st, defScope st, [], []⟩
theorem fun_of {K : PySem.W.Frag} {x : Str} {st : Stmt} {f : Addr} {fd : FuncData} (F : FunD K x x (defArgs st) (defBody st) (defScope st) [] [] f fd) : Fun K x x st f fd := by
  obtain ⟨oc, od, dV, kV, doc, pm, an, cdv, ct, osl, e, lk, hcd, hD, hK⟩ := F.ex
  rcases hD with ⟨_, rfl⟩ | ⟨e, _⟩
  · exact ⟨⟨oc, od, kV, doc, pm, an, cdv, ct, osl, e, lk, hcd⟩, F.kp⟩
  · exact absurd rfl e
theorem def_of {fa : List He.Fa} {fn : List He.DefD} {K : PySem.W.Frag} {h : Heap} {mg : Str → Option Value} {x : Str} {st : Stmt} {ps : List Str} (X : K.In h) (G : h.Ns mainGlobals mg) (c : He.SaysD fa fn K) (i j : Nat) (hi : fn[i]? = some (dd x st) := by rfl) (hj : fa[j]? = some (.glo x) := by rfl)
    (hb : ∀ (kV doc pm : Value) (an : Option Addr) (cdv ct : Value) (us : List Value), us.length = ps.length → bindArgs (PySem.W.fnOf x x (defArgs st) (defBody st) (defScope st) .none kV doc pm an cdv ct) ⟨us, []⟩ = pure (ps.zip us)) : Def K mg x st ps := by
  obtain ⟨fd, F⟩ := c.def_ i hi
  exact ⟨_, fd, fun_of F, He.glo_ok X G (c.fact j hj), FunD.bindsN F hb⟩
end Z

set_option maxRecDepth 100000
set_option maxHeartbeats 4000000
namespace Z
open PySem PySem.Spec PyProof.Rows L2 PpSet
/-! ### comprehensions of sets, by keys -/
section
variable {X : Cx}
def tSk (P : Program) (w : World) (wi : TI) (g : TG) (tt : TT) (te : TE) (vs : List Nat) : TE := fun σ H Q => wi σ H fun J Gp1 => ∀ Dst, Gp1 Dst = none → ∃ W : Nat → Nat → Hp → Prop, (∃ m, W 0 m (upd Gp1 Dst (SetK P w Dst (fun _ => false) 0))) ∧ ∀ i m H, W i m H →
  (J.stop i H ∧ Q (.ref Dst) H) ∨ (J.go i H ∧ ∃ Nx : Hp → Prop, (∀ H', Nx H' → ∃ m', m' < m ∧ W (i + 1) m' H') ∧ ∀ x H', J.yld i H x H' → g x (wipe σ vs) H' fun σ2 Gp2 => wipe σ2 vs = wipe σ vs ∧ tt σ2 Gp2 fun b Gp3 =>
    if b = true then te σ2 Gp3 fun y Gp4 => ∃ (c : Key) (S : Key → Bool) (n : Nat), y = kV c ∧ Gp4 Dst = some (SetK P w Dst S n) ∧ n + 1 < scanBound ∧ Nx (upd Gp4 Dst (SetK P w Dst (fun j => S j || decide (j = c)) (if S c = true then n else n + 1))) else Nx Gp3)
theorem sk_core {pins : List (Addr × Obj)} {s : Shared} {σ : L2.St} {H : Hp} {Q : VK} {elt tg iter : Expr} {ifs : List Expr} {scope : Scope} {own : List (PySem.Str × Nat)} {pos pos' : Pos} {wi : TI} {g : TG} {tt : TT} {te : TE} {use : Option (Value → Sem Unit)} {Qf : Value → Shared → Prop}
    (hc : X.calm = true) (hN : X.N.Nodup) (I : Inv X pins σ H s) (hi : PI X tg iter wi) (ok : BlkOk X.N X.env.scope scope own)
    (hg : ∀ (s : Shared) (H : Hp) (C : Addr) (cl : List (PySem.Str × Addr)) (fps : List Addr), PG (X.blk s H scope (compEnvC scope cl C X.env) fps) tg g) (ht : ∀ (s : Shared) (H : Hp) (C : Addr) (cl : List (PySem.Str × Addr)) (fps : List Addr), PTs (X.blk s H scope (compEnvC scope cl C X.env) fps) ifs tt)
    (he : ∀ (s : Shared) (H : Hp) (C : Addr) (cl : List (PySem.Str × Addr)) (fps : List Addr), PE (X.blk s H scope (compEnvC scope cl C X.env) fps) elt te) (hs : ∀ x, foldedSetIterable iter X.env x = pure x)
    (h : tSk X.prog X.w wi g tt te (own.map (·.2)) σ H Q)
    (kont : ∀ Dst C s' m H', Inv X pins σ H' s' → Q (.ref Dst) H' → s'.heap.Ns C m → FpOk X pins H' C → compPost (model X.prog X.w) X.A X.xe use Qf (.ref Dst) C (.ok .next) s') :
    wpAny (model X.prog X.w) X.A (comprehension (.SetComp elt [⟨tg, iter, ifs, 0⟩] scope pos) scope X.env pos' (newSet (.type "set")) false (eval iter X.env) use) Qf X.xe s := by
  have cellsOk : ∀ y ∈ scope.names, y.2 = .free → ∃ c, X.env.cells.lookup y.1 = some c := fun y hy e => by
    rcases ok.free y hy e with k | k
    · exact I.ok.has _ (.inl k)
    · exact I.ok.has _ (.inr k)
  refine wpAny_comprehension_free (use := use) rfl hs (closure_ok cellsOk) ok.kind (fun y hy e => by rw [ok.uniq y hy, e])
    (thn (hi.run pins s σ H _ I h) fun gv th1 gx => thn gx fun iv th2 got2 => ?_)
  obtain ⟨it, fps, lay, J, Gp2, e, Jn2, Wlk, lies2, fpk2, q⟩ := got2
  subst e
  refine newSet_ok (newEnv_comp ?_)
  generalize eqD : th2.heap.objs.size = Dst
  have freeD : Gp2 Dst = none := Jn2.hok.fresh (Nat.le_of_eq eqD)
  obtain ⟨W, ⟨m0, w0⟩, eachTurn⟩ := q Dst freeD
  -- the new list
  generalize eqT3 : ({ th2 with heap := th2.heap.push { cls := .type "set", dict := none, data := .set #[] 0 (.fresh 0 0 (!X.w.params.followText "set-order")) } } : Shared) = th3
  have Jn3 : Inv X pins σ (upd Gp2 Dst (SetK X.prog X.w Dst (fun _ => false) 0)) th3 := by
    rw [← eqT3]
    refine Jn2.laid (t' := th2.toks) (fun b o e => Heap.get?_push_of_some _ e) (Nat.le_of_eq eqD) ?_
    rw [← eqD]
    exact setK_new ⟨_, #[], 0, _, Heap.get?_push_size _ rfl, ⟨rfl, rfl, rfl⟩, rfl, (fun e he => by simp at he), (fun k => by simp), (by decide), (by rfl), rfl⟩
  have got3 : th3.heap = th2.heap.push { cls := .type "set", dict := none, data := .set #[] 0 (.fresh 0 0 (!X.w.params.followText "set-order")) } := by rw [← eqT3]
  have below : ∀ b ∈ fps, b < th2.heap.objs.size := fun b hb => by
    obtain ⟨o, e, _⟩ := Wlk.obj _ _ lies2 b hb
    exact Heap.lt_size e
  have fpk3 : ∀ b ∈ fps, FpOk X pins (upd Gp2 Dst (SetK X.prog X.w Dst (fun _ => false) 0)) b ∧ b < th3.heap.objs.size := fun b hb => by
    have ltb := below b hb
    refine ⟨⟨?_, (fpk2 b hb).2⟩, by rw [got3, Heap.size_push]; exact Nat.lt_succ_of_lt ltb⟩
    rw [upd_ne (by rw [← eqD]; exact Nat.ne_of_lt ltb)]
    exact (fpk2 b hb).1
  have lies3 : lay 0 th3.heap := Wlk.keep _ _ _ lies2 fun b _ o e => by rw [got3]; exact Heap.get?_push_of_some _ e
  have Jn4 := block_start Jn3 ok hN fpk3
  have tgOk := hg th3 (upd Gp2 Dst (SetK X.prog X.w Dst (fun _ => false) 0)) th3.heap.objs.size (cellsFrom (th3.heap.objs.size + 1) scope.names (cloFrom X.env.cells scope.names [])) fps
  have ifOk := ht th3 (upd Gp2 Dst (SetK X.prog X.w Dst (fun _ => false) 0)) th3.heap.objs.size (cellsFrom (th3.heap.objs.size + 1) scope.names (cloFrom X.env.cells scope.names [])) fps
  have eltOk := he th3 (upd Gp2 Dst (SetK X.prog X.w Dst (fun _ => false) 0)) th3.heap.objs.size (cellsFrom (th3.heap.objs.size + 1) scope.names (cloFrom X.env.cells scope.names [])) fps
  show codeAny _ _ (.compStart (.SetComp elt [⟨tg, iter, ifs, 0⟩] scope pos) 0 (.ref it) (.ref Dst) (compEnvC scope (cellsFrom (th3.heap.objs.size + 1) scope.names (cloFrom X.env.cells scope.names [])) th3.heap.objs.size X.env)) (compPost (model X.prog X.w) X.A X.xe use Qf (.ref Dst) th3.heap.objs.size) { th3 with heap := pushCells (th3.heap.push { cls := .type "dict", data := .dict #[] }) scope.names }
  have noFp : ∀ b ∈ fps, (upd Gp2 Dst (SetK X.prog X.w Dst (fun _ => false) 0)) b = none := fun b hb => (fpk3 b hb).1.1
  generalize eqCe : compEnvC scope (cellsFrom (th3.heap.objs.size + 1) scope.names (cloFrom X.env.cells scope.names [])) th3.heap.objs.size X.env = cev at Jn4 tgOk ifOk eltOk ⊢
  have ceL : cev.locals = th3.heap.objs.size := by subst eqCe; rfl
  generalize eqG3 : upd Gp2 Dst (SetK X.prog X.w Dst (fun _ => false) 0) = Gp3 at Jn3 Jn4 tgOk ifOk eltOk w0 noFp fpk3
  generalize eqT4 : ({ th3 with heap := pushCells (th3.heap.push { cls := .type "dict", data := .dict #[] }) scope.names } : Shared) = th4 at Jn4 ⊢
  have lies4 : lay 0 th4.heap := Wlk.keep _ _ _ lies3 fun b _ o e => by rw [← eqT4]; exact pushCells_keeps _ _ _ _ (Heap.get?_push_of_some _ e)
  have stays : ∀ {σ' : L2.St} {H' : Hp} {s' : Shared}, Inv (X.blk th3 Gp3 scope cev fps) [] σ' H' s' → (∀ b ∈ fps, H' b = none) → ∀ b ∈ fps, FpOk (X.blk th3 Gp3 scope cev fps) [] H' b := fun {σ' H' s'} I' nsAt b hb =>
    ⟨nsAt b hb, (I'.ok.exf b hb).1, I'.ok.exfs b hb, .inl hb, fun x c e => (I'.ok.exf b hb).2 x c e, fun p hp => absurd (show p ∈ ([] : List (Addr × Obj)) ++ [] from hp) (by simp)⟩
  have walkAll : codeAny (model X.prog X.w) X.A (.compLoop (.SetComp elt [⟨tg, iter, ifs, 0⟩] scope pos) 0 (.ref it) (.ref Dst) cev) (compPost (model X.prog X.w) X.A X.xe use Qf (.ref Dst) th3.heap.objs.size) th4 := by
    refine compLoopS_any (fun n s' => ∃ i H', Inv (X.blk th3 Gp3 scope cev fps) [] (wipe σ (own.map (·.2))) H' s' ∧ lay i s'.heap ∧ (∀ b ∈ fps, H' b = none) ∧ W i n H') ?_ m0 ⟨0, Gp3, Jn4, lies4, noFp, w0⟩
    rintro n th5 ⟨i, Gp5, Jn5, lies5, nil5, lft5⟩
    rcases eachTurn i n Gp5 lft5 with ⟨atEnd, wishE⟩ | ⟨goes, Nx, nxt, oneTurn⟩
    · have doneOk := Wlk.done (X.blk th3 Gp3 scope cev fps) rfl rfl rfl hc i [] th5 _ Gp5 (fun _ _ => False) Jn5 (stays Jn5 nil5) lies5 atEnd
      refine thnF doneOk fun r th6 ⟨rOk, Jn6⟩ => ?_
      subst rOk
      -- back in the def's context
      have Jn7 : Inv X pins σ Gp5 th6 := Jn3.call' (ch := fps) Jn6.os Jn6.base Jn6.hok Jn6.bare fun b hb => ⟨(fpk3 b hb).1.2.2.2.1, (fpk3 b hb).1.2.1, (fpk3 b hb).1.2.2.2.2.1, (fpk3 b hb).1.2.2.2.2.2⟩
      have freeC : Gp5 th3.heap.objs.size = none := by
        have zz : Gp5 cev.locals = none := Jn6.free
        rw [ceL] at zz
        exact zz
      obtain ⟨m, nsAt, _⟩ := Jn6.loc
      have nsAt : th6.heap.Ns cev.locals m := nsAt
      rw [ceL] at nsAt
      exact kont Dst th3.heap.objs.size th6 m Gp5 Jn7 wishE nsAt (Jn3.fpOk (Nat.le_refl _) freeC)
    · have itemOk := Wlk.item (X.blk th3 Gp3 scope cev fps) rfl rfl rfl hc i [] th5 _ Gp5 (fun _ _ => False) Jn5 (stays Jn5 nil5) lies5 goes
      refine thnF itemOk fun r th6 ⟨u, rOk, got6⟩ => ?_
      subst rOk
      refine thnF got6 fun _ th7 ⟨x, Gp7, Jn7, rel7, yl7, lies7, nil7⟩ => ?_
      have I7' := Jn7.pinned (stays Jn7 nil7) (Wlk.obj _ _ lies7)
      refine thnF (tgOk.run _ th7 _ Gp7 x u _ I7' rel7 (oneTurn x Gp7 yl7)) fun _ th8 ⟨σ8, Gp8, Jn8, wip8, wish8⟩ => ?_
      refine thnF (ifOk.run _ th8 σ8 Gp8 _ Jn8 wish8) fun b th9 ⟨Gp9, Jn9, wish9⟩ => ?_
      -- the turn's end
      have shut : ∀ {s' : Shared} {H' : Hp}, Inv (X.blk th3 Gp3 scope cev fps) ([] ++ pinsAt fps th7.heap) σ8 H' s' → Nx H' → ∃ m, m < n ∧ ∃ i H', Inv (X.blk th3 Gp3 scope cev fps) [] (wipe σ (own.map (·.2))) H' s' ∧ lay i s'.heap ∧ (∀ b ∈ fps, H' b = none) ∧ W i m H' := fun {s' H'} I' nextOk => by
        obtain ⟨m', hm, w'⟩ := nxt H' nextOk
        have pinKeeps : ∀ b ∈ fps, ∀ o, th7.heap.get? b = some o → s'.heap.get? b = some o ∧ H' b = none := fun b hb o e =>
          let zz := I'.pin (b, o) (List.mem_append_right _ (List.mem_append_right _ (mem_pinsAt hb e)))
          ⟨zz.1, zz.2.1⟩
        have lenEq : (wipe σ (own.map (·.2))).length = σ8.length := by rw [← wip8, wipe_length]
        refine ⟨m', hm, i + 1, H', (I'.unpinned (pins := [])).weak lenEq (fun j v e => ?_), Wlk.keep _ _ _ lies7 fun b hb o e => (pinKeeps b hb o e).1, fun b hb => ?_, w'⟩
        · rw [← wip8] at e
          exact (wipe_some e).1
        · obtain ⟨o, e, _⟩ := Wlk.obj _ _ lies7 b hb
          exact (pinKeeps b hb o e).2
      cases b with
      | false =>
        simp only [Bool.false_eq_true, if_false] at wish9 ⊢
        exact shut Jn9 wish9
      | true =>
        simp only [if_true] at wish9 ⊢
        refine thnF (eltOk.run _ th9 σ8 Gp9 _ Jn9 wish9) fun zz th10 ⟨yval, Gp10, Jn10, rel10, kb, Sb, nb, eqy, atD10, room10, nextOk⟩ => ?_
        subst eqy
        exact thnF (mt_saddK (X := X.blk th3 Gp3 scope cev fps) _ th10 σ8 Gp10 (.ref Dst) [kV kb] (.ref Dst) [zz] (fun _ H' => Nx H') Jn10 rfl (.cons rel10 .nil) ⟨Dst, kb, Sb, nb, rfl, rfl, atD10, room10, nextOk⟩) fun _ th11 ⟨_, Gp11, Jn11, _, wish11⟩ => shut Jn11 wish11
  exact codeAny_compStart_set walkAll (Wlk.self X.A 0 _ _ _ lies4 walkAll)
/-- as a value -/
theorem pe_sk {elt tg iter : Expr} {ifs : List Expr} {scope : Scope} {own : List (PySem.Str × Nat)} {pos : Pos} {wi : TI} {g : TG} {tt : TT} {te : TE} (hc : X.calm = true) (hN : X.N.Nodup) (hi : PI X tg iter wi) (ok : BlkOk X.N X.env.scope scope own)
    (hg : ∀ (s : Shared) (H : Hp) (C : Addr) (cl : List (PySem.Str × Addr)) (fps : List Addr), PG (X.blk s H scope (compEnvC scope cl C X.env) fps) tg g) (ht : ∀ (s : Shared) (H : Hp) (C : Addr) (cl : List (PySem.Str × Addr)) (fps : List Addr), PTs (X.blk s H scope (compEnvC scope cl C X.env) fps) ifs tt)
    (he : ∀ (s : Shared) (H : Hp) (C : Addr) (cl : List (PySem.Str × Addr)) (fps : List Addr), PE (X.blk s H scope (compEnvC scope cl C X.env) fps) elt te) (hs : ∀ x, foldedSetIterable iter X.env x = pure x := by intro _; rfl) :
    PE X (.SetComp elt [⟨tg, iter, ifs, 0⟩] scope pos) (tSk X.prog X.w wi g tt te (own.map (·.2))) := by
  refine ⟨fun pins s σ H Q I h => ?_⟩
  rw [eval_SetComp]
  refine sk_core hc hN I hi ok hg ht he hs h fun Dst C s' m H' I' q nsAt f => ⟨m, nsAt, fun h'' sb => ?_⟩
  obtain ⟨f0, fpk1, fpk2, fpk3, fpk4, fpk5⟩ := f
  exact ⟨.ref Dst, H', I'.turned (t' := s'.toks) (fun b o hb e => (sb.2 b hb).trans e) f0 fpk1 fpk3 fpk4 fpk5, rfl, q⟩
end

def hasK (acc : List Key) (k : Key) : Bool := acc.any fun j => decide (j = k)
/-- the set's keys, in the order in which they came -/
def zScL (g : ZG) (c : ZB) (e : ZT) (ρ : Sl) (q : List Key → Mu → Prop) : List Key → List D → Mu → Prop
  | acc, [], μ => q acc μ
  | acc, d :: ds, μ => g d ρ μ fun ρ2 μ2 => c ρ2 μ2 (fun b μ3 => match b with
    | true => e ρ2 μ3 (fun y μ4 => match keyOf y with
      | some k => zScL g c e ρ q (if hasK acc k = true then acc else acc ++ [k]) ds μ4
      | none => False) (fun _ _ => False)
    | false => zScL g c e ρ q acc ds μ3) (fun _ _ => False)
/-- len of a set comprehension -/
def zLenSc (zi : ZI) (g : ZG) (c : ZB) (e : ZT) (vs : List Nat) : ZT := fun ρ μ q ex => zi ρ μ (fun ds μ1 => ds.length < 3000 ∧ zScL g c e (zwipe ρ vs) (fun ks μ2 => q (.int ks.length) μ2) [] ds μ1) ex
def rLenSet (P : Program) (w : World) : List V → Hp → VK → Prop := fun xs H Q => ∃ (a : Addr) (S : Key → Bool) (n : Nat), xs = [V.ref a] ∧ H a = some (SetK P w a S n) ∧ n < 4000 ∧ Q (.int n) H
theorem call_lenSet {X : Cx} : CallR X (.builtin "len") (rLenSet X.prog X.w) := by
  intro pins s σ H xs us Q I r h
  obtain ⟨a, S, n, rfl, ha, hn, q⟩ := h
  cases r with
  | cons r1 r2 =>
    cases r2
    cases r1
    obtain ⟨o, es, ep, t, ho, hex, hd, _, _, _, hf, hn'⟩ := setK_get I ha
    exact call_len_set ho hex hd hf (by rw [hn'] <;> omega) ⟨.int n, H, I.tok _, ⟨_, by rw [hn']⟩, q⟩
section
variable {K : PySem.W.Frag} {W : WX} {wi : TI} {zi : ZI} {g : TG} {zg : ZG} {tt : TT} {zt : ZB} {te : TE} {ze : ZT} {vs : List Nat} {P : Program} {w : World}
theorem le_lensc (hi : LI K W wi zi) (hg : LG K g zg) (ho : GOwn g vs) (ht : LT K W0 tt zt) (he : LE K W0 te ze) : LE K W (tCB (rLenSet P w) (tCons (tSk P w wi g tt te vs) tNil)) (zLenSc zi zg zt ze vs) := fun x σ H ρ μ q w' Q I c h k => by
  refine hi x σ H ρ μ _ w' _ I c h fun ds J H1 μ1 g1 z1 wk h1 => fun L hL => ?_
  obtain ⟨hsz, h1⟩ := h1
  have a1 : Fm H1 μ1 x (upd H1 L (SetK P w L (fun _ => false) 0)) μ1 (addX x L) := Fm.aside hL
  have b1 : ZH K (upd H1 L (SetK P w L (fun _ => false) 0)) μ1 (addX x L) := z1.aside hL
  have I1 := I.grow g1 z1
  let Wp : Nat → Hp → Prop := fun i H' => ∃ (acc : List Key) (S : Key → Bool) (μ' : Mu), Fm H1 μ1 x H' μ' (addX x L) ∧ (∀ a, x a → H' a = H1 a) ∧ ZH K H' μ' (addX x L) ∧ H' L = some (SetK P w L S acc.length) ∧ (∀ j, S j = hasK acc j) ∧ acc.length ≤ i ∧
    zScL zg zt ze (zwipe ρ vs) (fun ks μ2 => q (.int ks.length) μ2) acc (ds.drop i) μ'
  refine ⟨fun i m H' => m = ds.length - i ∧ i ≤ ds.length ∧ Wp i H',
    ⟨ds.length, by simp, Nat.zero_le _, [], _, μ1, a1, fun a ha => upd_ne (fun e => (z1.ax a ha).2 (e ▸ hL)), b1, upd_same, fun _ => rfl, Nat.le_refl _, h1⟩, ?_⟩
  rintro i m H' ⟨rfl, hi, acc, S, μ', f', xa', z', eL, hS, len', h'⟩
  by_cases hlt : i < ds.length
  · refine .inr ⟨wk.go i H' μ' _ f' z' hlt, Wp (i + 1), fun H5 w5 => ⟨ds.length - (i + 1), by omega, rfl, hlt, w5⟩, fun v H'' y => ?_⟩
    rw [List.drop_eq_getElem_cons hlt] at h'
    obtain ⟨g3, z3, r3⟩ := wk.yld i H' μ' _ v H'' ds[i] f' z' (List.getElem?_eq_getElem hlt) y
    have J3 : ZInv K (wipe σ vs) H'' (zwipe ρ vs) μ' (addX x L) := (I1.mo (f'.trans g3.fz) z3).wipe vs
    refine ho v _ H'' _ _ (hg (addX x L) _ v _ H'' _ μ' _ (fun σ2 H2 => tt σ2 H2 fun b H3 => if b = true then te σ2 H3 fun y H4 => ∃ (c : Key) (S : Key → Bool) (n : Nat), y = kV c ∧ H4 L = some (SetK P w L S n) ∧ n + 1 < scanBound ∧
        Wp (i + 1) (upd H4 L (SetK P w L (fun j => S j || decide (j = c)) (if S c = true then n else n + 1))) else Wp (i + 1) H3) J3 r3 h' fun σ2 H2 ρ2 μ2 g4 J4 h4 => ?_) fun σ2 H2 hw hq => ⟨hw.trans (wipe_idem vs vs fun _ h => h), hq⟩
    refine ht (addX x L) σ2 H2 ρ2 μ2 _ (fun _ _ _ => False) _ J4 wc0 h4 fun b H3 μ3 g5 z5 h5 => ?_
    have G3 : Grow H' μ' H3 μ3 (addX x L) := g3.trans (g4.trans g5)
    have eL3 : H3 L = some (SetK P w L S acc.length) := (G3.ax L (.inr rfl)).trans eL
    have xa3 : ∀ a, x a → H3 a = H1 a := fun a ha => (G3.ax a (.inl ha)).trans (xa' a ha)
    cases b with
    | false => exact iteF ⟨acc, S, μ3, f'.trans G3.fz, xa3, z5, eL3, hS, Nat.le_succ_of_le len', h5⟩
    | true =>
      refine iteT (he (addX x L) σ2 H3 ρ2 μ3 _ (fun _ _ _ => False) _ (J4.grow g5 z5) wc0 h5 fun d y H4 μ4 g6 z6 r6 h6 => ?_)
      cases ek : keyOf d with
      | none => rw [ek] at h6; exact h6.elim
      | some kk =>
        rw [ek] at h6
        have G4 : Grow H' μ' H4 μ4 (addX x L) := G3.trans g6
        have eL4 : H4 L = some (SetK P w L S acc.length) := (G4.ax L (.inr rfl)).trans eL
        obtain ⟨f7, z7⟩ := z6.wside (SetK P w L (fun j => S j || decide (j = kk)) (if S kk = true then acc.length else acc.length + 1))
        have hb : acc.length + 1 < scanBound := by
          have : (4000 : Nat) < scanBound := by decide
          omega
        refine ⟨kk, S, acc.length, key_of r6 ek, eL4, hb, (if hasK acc kk = true then acc else acc ++ [kk]), fun j => S j || decide (j = kk), μ4, f'.trans (Fm.trans G4.fz f7), fun a ha => ?_, z7, ?_, ?_, ?_, h6⟩
        · have ne : a ≠ L := fun e => by
            have := (z1.ax a ha).2
            rw [e] at this
            exact this hL
          rw [upd_ne ne]
          exact (G4.ax a (.inl ha)).trans (xa' a ha)
        · rw [upd_same]
          congr 1
          rw [hS]
          by_cases hm : hasK acc kk = true
          · rw [if_pos hm, if_pos hm]
          · rw [if_neg hm, if_neg hm]; simp
        · intro j
          show (S j || decide (j = kk)) = _
          rw [hS]
          by_cases hm : hasK acc kk = true
          · rw [if_pos hm]
            by_cases hj : j = kk
            · subst hj; simp [hm]
            · simp [hj]
          · rw [if_neg hm]
            unfold hasK
            rw [List.any_append]
            simp [eq_comm]
        · split
          · omega
          · simp; omega
  · have ei : i = ds.length := by omega
    subst ei
    rw [List.drop_length] at h'
    refine .inl ⟨wk.stop H' μ' _ f' z', ?_⟩
    have g9 : Grow H μ H' μ' x := g1.trans ⟨f'.trans Fm.back, xa'⟩
    exact ⟨L, S, acc.length, rfl, eL, by omega, k (.int acc.length) (.int acc.length) H' μ' g9 z'.back rep_int h'⟩
end
section
variable {X : Cx} {W : WX} {k : Nat} {elt tg iter : Expr} {ifs : List Expr} {scope : Scope} {own : List (Str × Nat)} {pos cpos p : Pos} {wi : TI} {zi : ZI} {zg : ZG} {zt : ZB} {ze : ZT} {g : Bk TG} {tt : ∀ (s : Shared) (H : Hp) (C : Addr) (cl : List (Str × Addr)) (fp : List Addr), ZC (X.blk s H scope (compEnvC scope cl C X.env) fp) W0 k → TT} {te : ∀ (s : Shared) (H : Hp) (C : Addr) (cl : List (Str × Addr)) (fp : List Addr), ZC (X.blk s H scope (compEnvC scope cl C X.env) fp) W0 k → TE}
theorem zlensc (cx : ZC X W k) (hm : X.mg "len" = none) (hi : ZPi X W tg iter wi zi) (ok : BlkOk X.N X.env.scope scope own)
    (hg : ∀ (s : Shared) (H : Hp) (C : Addr) (cl : List (Str × Addr)) (fp : List Addr), ZPg (X.blk s H scope (compEnvC scope cl C X.env) fp) tg (g s H C cl fp) zg) (ho : ∀ (s : Shared) (H : Hp) (C : Addr) (cl : List (Str × Addr)) (fp : List Addr), GOwn (g s H C cl fp) (own.map (·.2)))
    (ht : ∀ (s : Shared) (H : Hp) (C : Addr) (cl : List (Str × Addr)) (fp : List Addr) (c : ZC (X.blk s H scope (compEnvC scope cl C X.env) fp) W0 k), ZPts (X.blk s H scope (compEnvC scope cl C X.env) fp) W0 ifs (tt s H C cl fp c) zt)
    (he : ∀ (s : Shared) (H : Hp) (C : Addr) (cl : List (Str × Addr)) (fp : List Addr) (c : ZC (X.blk s H scope (compEnvC scope cl C X.env) fp) W0 k), ZE (X.blk s H scope (compEnvC scope cl C X.env) fp) W0 elt (te s H C cl fp c) ze) (hs : ∀ x, foldedSetIterable iter X.env x = pure x := by intro _; rfl)
    (hg' : Gl X "len" := by rfl) (hee : starEach [Expr.SetComp elt [⟨tg, iter, ifs, 0⟩] scope pos] X.env = (false, eval (.SetComp elt [⟨tg, iter, ifs, 0⟩] scope pos) X.env) :: starEach [] X.env := by rfl) (hpl : (backTo cpos (starEach [] X.env)).any (·.1) = false := by rfl) :
    ZE X W (.Call (.Name "len" p) [.SetComp elt [⟨tg, iter, ifs, 0⟩] scope pos] [] cpos) (tCB (rLenSet X.prog X.w) (tCons (tSk X.prog X.w wi (bkG g) (bkT X k scope tt) (bkE X k scope te) (own.map (·.2))) tNil)) (zLenSc zi zg zt ze (own.map (·.2))) :=
  ⟨pe_callB call_lenSet hg' hm (by decide +kernel) (pa_cons (pe_sk cx.calm cx.nd hi.p ok (bk_pg hg) (bk_pt cx ht) (bk_pe cx he) hs) pa_nil) (by decide) rfl hee hpl,
    le_lensc hi.l (bk_lg hg) (bk_own ho) (bk_lt ht) (bk_le he)⟩
end
end Z

set_option maxRecDepth 100000
set_option maxHeartbeats 4000000
namespace Z
open PySem L2
/-! ### loops by invariants -/
theorem for_inv {g : ZG} {b : ZS} {N : ZEnds} (Inv : Nat → Sl → Mu → Prop) {ds : List D} {ρ : Sl} {μ : Mu} (h0 : Inv 0 ρ μ)
    (hs : ∀ i d ρ μ (K : Sl → Mu → Prop), ds[i]? = some d → Inv i ρ μ → (∀ ρ' μ', Inv (i + 1) ρ' μ' → K ρ' μ') → g d ρ μ fun ρ1 μ1 => b { N with nx := K, ct := K, bk := N.nx } ρ1 μ1)
    (he : ∀ ρ μ, Inv ds.length ρ μ → N.nx ρ μ) : zForL g b N ds ρ μ := by
  have key : ∀ (es : List D) (i : Nat) ρ μ, ds.drop i = es → i ≤ ds.length → Inv i ρ μ → zForL g b N es ρ μ := by
    intro es
    induction es with
    | nil =>
      intro i ρ μ e hi h
      have : i = ds.length := by
        have := congrArg List.length e
        simp at this; omega
      subst this
      simp only [zForL]
      exact he _ _ h
    | cons d r ih =>
      intro i ρ μ e hi h
      have hlt : i < ds.length := by
        have := congrArg List.length e
        simp at this; omega
      have e2 : ds[i]? = some d := by
        rw [List.drop_eq_getElem_cons hlt] at e
        rw [List.getElem?_eq_getElem hlt, (List.cons.inj e).1]
      have e3 : ds.drop (i + 1) = r := by
        rw [List.drop_eq_getElem_cons hlt] at e
        exact (List.cons.inj e).2
      simp only [zForL]
      exact hs i d ρ μ _ e2 h fun ρ' μ' q => ih (i + 1) ρ' μ' e3 hlt q
  exact key ds 0 ρ μ rfl (Nat.zero_le _) h0
theorem lc_inv {g : ZG} {c : ZB} {e : ZT} {ρ : Sl} {q : ZQ} (Inv : Nat → List D → Mu → Prop) {ds : List D} {μ : Mu} (h0 : Inv 0 [] μ)
    (hs : ∀ i d acc μ (K : List D → Mu → Prop), ds[i]? = some d → Inv i acc μ → (∀ acc' μ', Inv (i + 1) acc' μ' → K acc' μ') →
      g d ρ μ fun ρ2 μ2 => c ρ2 μ2 (fun b μ3 => match b with
        | true => e ρ2 μ3 (fun y μ4 => K (acc ++ [y]) μ4) (fun _ _ => False)
        | false => K acc μ3) (fun _ _ => False))
    (he : ∀ acc μ, Inv ds.length acc μ → q (.lst acc) μ) : zLcL g c e ρ q [] ds μ := by
  have key : ∀ (es : List D) (i : Nat) acc μ, ds.drop i = es → i ≤ ds.length → Inv i acc μ → zLcL g c e ρ q acc es μ := by
    intro es
    induction es with
    | nil =>
      intro i acc μ e hi h
      have : i = ds.length := by
        have := congrArg List.length e
        simp at this; omega
      subst this
      simp only [zLcL]
      exact he _ _ h
    | cons d r ih =>
      intro i acc μ e hi h
      have hlt : i < ds.length := by
        have := congrArg List.length e
        simp at this; omega
      have e2 : ds[i]? = some d := by
        rw [List.drop_eq_getElem_cons hlt] at e
        rw [List.getElem?_eq_getElem hlt, (List.cons.inj e).1]
      have e3 : ds.drop (i + 1) = r := by
        rw [List.drop_eq_getElem_cons hlt] at e
        exact (List.cons.inj e).2
      simp only [zLcL]
      exact hs i d acc μ (fun acc' μ' => zLcL g c _ ρ q acc' r μ') e2 h fun acc' μ' q => ih (i + 1) acc' μ' e3 hlt q
  exact key ds 0 [] μ rfl (Nat.zero_le _) h0
theorem sc_inv {g : ZG} {c : ZB} {e : ZT} {ρ : Sl} {q : List Key → Mu → Prop} (Inv : Nat → List Key → Mu → Prop) {ds : List D} {μ : Mu} (h0 : Inv 0 [] μ)
    (hs : ∀ i d acc μ (K : List Key → Mu → Prop), ds[i]? = some d → Inv i acc μ → (∀ acc' μ', Inv (i + 1) acc' μ' → K acc' μ') →
      g d ρ μ fun ρ2 μ2 => c ρ2 μ2 (fun b μ3 => match b with
        | true => e ρ2 μ3 (fun y μ4 => match keyOf y with
          | some k => K (if hasK acc k = true then acc else acc ++ [k]) μ4
          | none => False) (fun _ _ => False)
        | false => K acc μ3) (fun _ _ => False))
    (he : ∀ acc μ, Inv ds.length acc μ → q acc μ) : zScL g c e ρ q [] ds μ := by
  have key : ∀ (es : List D) (i : Nat) acc μ, ds.drop i = es → i ≤ ds.length → Inv i acc μ → zScL g c e ρ q acc es μ := by
    intro es
    induction es with
    | nil =>
      intro i acc μ e hi h
      have : i = ds.length := by
        have := congrArg List.length e
        simp at this; omega
      subst this
      simp only [zScL]
      exact he _ _ h
    | cons d r ih =>
      intro i acc μ e hi h
      have hlt : i < ds.length := by
        have := congrArg List.length e
        simp at this; omega
      have e2 : ds[i]? = some d := by
        rw [List.drop_eq_getElem_cons hlt] at e
        rw [List.getElem?_eq_getElem hlt, (List.cons.inj e).1]
      have e3 : ds.drop (i + 1) = r := by
        rw [List.drop_eq_getElem_cons hlt] at e
        exact (List.cons.inj e).2
      simp only [zScL]
      exact hs i d acc μ (fun acc' μ' => zScL g c _ ρ q acc' r μ') e2 h fun acc' μ' q => ih (i + 1) acc' μ' e3 hlt q
  exact key ds 0 [] μ rfl (Nat.zero_le _) h0
/-! ### the state that a law's makers draw from -/
/-- s: [cells, the number that is left] -/
def StAt (s c : Addr) (μ : Mu) : Prop := s ≠ c ∧ (∃ xs : List Int, μ c = some (.lst (xs.map .int))) ∧ ∃ v : Int, μ s = some (.lst [.ref c, .int v])
/-- all else stays -/
def Fr (s c : Addr) (μ μ' : Mu) : Prop := ∀ b u, b ≠ s → b ≠ c → μ b = some u → μ' b = some u
theorem Fr.refl {s c : Addr} {μ : Mu} : Fr s c μ μ := fun _ _ _ _ h => h
theorem Fr.trans {s c : Addr} {μ μ1 μ2 : Mu} (a : Fr s c μ μ1) (b : Fr s c μ1 μ2) : Fr s c μ μ2 := fun x u h1 h2 h => b x u h1 h2 (a x u h1 h2 h)
/-- what is made out of the state: P its wish -/
def Makes (s c : Addr) (μ : Mu) (P : D → Prop) (q : ZQ) : Prop := ∀ d μ', P d → StAt s c μ' → Fr s c μ μ' → q d μ'
def Smixed : Zp := fun ds μ q _ => ∃ i : Int, ds = [.int i] ∧ ∀ n : Int, q (.int n) μ
def Stake : Zp := fun ds μ q _ => ∃ s c n, ds = [.ref s, .int n] ∧ 0 < n ∧ n < 2 ^ 200 ∧ StAt s c μ ∧ Makes s c μ (fun d => ∃ i : Int, d = .int i ∧ 0 ≤ i ∧ i < n) q
def zTake (S__law_mixed : Zp) : ZS :=
  (zSeq (zIfS (zAnd (zTst (zOp zLt (zOp zIx (zVar 0) (zC (.int 1))) (zVar 1))) (zTst (zOp zGt (zCB zLen (zCons (zOp zIx (zVar 0) (zC (.int 0))) zNil)) (zC (.int 0))))) (zSeq (zAsg (zCB zAbs (zCons (zCB zToInt (zCons (zBM isL zPop (zOp zIx (zVar 0) (zC (.int 0))) (zCons (zC (.int 0)) zNil)) zNil)) zNil)) (zgName 2)) (zSeq (zIfS (zTst (zOp zLt (zVar 2) (zOp zPow (zC (.int 10)) (zC (.int 18))))) (zAsg (zCall S__law_mixed (zCons (zVar 2) zNil)) (zgName 2)) zNext) (zSetS (zVar 0) (zC (.int 1)) (zVar 2)))) zNext) (zSeq (zAsg (zOp zMod (zCB zToInt (zCons (zOp zIx (zVar 0) (zC (.int 1))) zNil)) (zVar 1)) (zgName 3)) (zSeq (zSetS (zVar 0) (zC (.int 1)) (zOp zDiv (zOp zIx (zVar 0) (zC (.int 1))) (zVar 1))) (zRet (zVar 3)))))
theorem small200 {n : Int} (h0 : 0 < n) (h : n < 2 ^ 200) : CDivW (0 : Int) n := by
  refine ⟨h0, ?_⟩
  have e : n.natAbs < 2 ^ 200 := by omega
  have := PySem.Flt.log2_lt_of (k := 200) (by decide) e
  omega
theorem dct_ref {s : Addr} {μ : Mu} {xs : List D} (h : μ s = some (.lst xs)) : dctOf (.ref s) μ = none := by simp only [dctOf, h]
theorem seq_ref {s : Addr} {μ : Mu} {xs : List D} (h : μ s = some (.lst xs)) : seqOf (.ref s) μ = some xs := by simp only [seqOf, h]
theorem lst_ref {s : Addr} {μ : Mu} {xs : List D} (h : μ s = some (.lst xs)) : lstOf (.ref s) μ = some xs := by simp only [lstOf, h]
theorem rlst_ref {s : Addr} {μ : Mu} {xs : List D} (h : μ s = some (.lst xs)) : rlstOf (.ref s) μ = some xs := by simp only [rlstOf, h]
theorem isL_ref {s : Addr} {μ : Mu} {xs : List D} (h : μ s = some (.lst xs)) : isL (.ref s) μ = true := by simp only [isL, lstOf, h]; rfl
theorem lend_ref {s : Addr} {μ : Mu} {xs : List D} (h : μ s = some (.lst xs)) : lenD (.ref s) μ = some xs.length := by simp only [lenD, seq_ref h]
theorem take_tail {s c : Addr} {n : Int} {o : Option D} {μ : Mu} {q : ZQ} {e : ZX} (h0 : 0 < n) (h1 : n < 2 ^ 200) (st : StAt s c μ) (k : Makes s c μ (fun d => ∃ i : Int, d = .int i ∧ 0 ≤ i ∧ i < n) q) :
    (zSeq (zAsg (zOp zMod (zCB zToInt (zCons (zOp zIx (zVar 0) (zC (.int 1))) zNil)) (zVar 1)) (zgName 3)) (zSeq (zSetS (zVar 0) (zC (.int 1)) (zOp zDiv (zOp zIx (zVar 0) (zC (.int 1))) (zVar 1))) (zRet (zVar 3))))
      { nx := fun _ μ' => q .non μ', rt := q, ex := fun r _ μ' => e r μ' } [some (.ref s), some (.int n), o, none] μ := by
  obtain ⟨ne, ⟨xs, hc⟩, v, hs⟩ := st
  ((conv => whnf); (repeat ((first | rw [dct_ref hs] | rw [seq_ref hs]); (conv => whnf))))
  refine ⟨h0, ?_⟩
  ((conv => whnf); (repeat ((first | rw [dct_ref hs] | rw [seq_ref hs]); (conv => whnf))))
  refine ⟨small200 h0 h1, ?_⟩
  ((conv => whnf); (repeat ((first | rw [hs]); (conv => whnf))))
  refine k _ _ ⟨_, rfl, Int.emod_nonneg _ (by omega), Int.emod_lt_of_pos _ h0⟩ ⟨ne, ⟨xs, ?_⟩, _, updM_same⟩ fun b u h1 h2 h => ?_
  · rw [updM_ne (Ne.symm ne)]; exact hc
  · rw [updM_ne h1]; exact h
theorem take_ok {ds : List D} {μ : Mu} {q : ZQ} {e : ZX} (h : Stake ds μ q e) : zBody 4 (zTake Smixed) ds μ q e := by
  obtain ⟨s, c, n, rfl, h0, h1, st, k⟩ := h
  have h10 : CPow 10 18 := ⟨by decide, by decide, by decide⟩
  have ⟨ne, ⟨xs, hc⟩, v, hs⟩ := st
  unfold zTake
  ((conv => whnf); (repeat ((first | rw [dct_ref hs] | rw [seq_ref hs]); (conv => whnf))))
  split
  · ((conv => whnf); (repeat ((first | rw [dct_ref hs] | rw [seq_ref hs] | rw [dct_ref hc] | rw [seq_ref hc]); (conv => whnf))))
    rw [lend_ref hc]
    (conv => whnf)
    split
    · rename_i hl
      have hl2 : 0 < xs.length := by
        have := of_decide_eq_true hl
        rw [List.length_map] at this
        omega
      obtain ⟨x, r, rfl⟩ := List.exists_cons_of_length_pos hl2
      ((conv => whnf); (repeat ((first | rw [dct_ref hs] | rw [seq_ref hs] | rw [isL_ref hc] | rw [hc]); (conv => whnf))))
      have e0 : ixN (List.map D.int (x :: r)).length 0 = some 0 := by simp [ixN]
      rw [e0]
      (conv => whnf)
      refine ⟨by decide, by decide, ?_⟩
      have hs2 : updM μ c (D.lst ((List.map D.int (x :: r)).eraseIdx 0)) s = some (.lst [.ref c, .int v]) := by rw [updM_ne ne]; exact hs
      have hc2 : updM μ c (D.lst ((List.map D.int (x :: r)).eraseIdx 0)) c = some (.lst (r.map .int)) := by rw [updM_same]; rfl
      have fin : ∀ i : Int, (zSeq (zAsg (zOp zMod (zCB zToInt (zCons (zOp zIx (zVar 0) (zC (.int 1))) zNil)) (zVar 1)) (zgName 3)) (zSeq (zSetS (zVar 0) (zC (.int 1)) (zOp zDiv (zOp zIx (zVar 0) (zC (.int 1))) (zVar 1))) (zRet (zVar 3))))
          { nx := fun _ μ' => q .non μ', rt := q, ex := fun r _ μ' => e r μ' } [some (.ref s), some (.int n), some (.int i), none] (updM (updM μ c (D.lst ((List.map D.int (x :: r)).eraseIdx 0))) s (.lst [.ref c, .int i])) := fun i => by
        refine take_tail h0 h1 ⟨ne, ⟨r, ?_⟩, i, updM_same⟩ fun d μ' p st' f => k d μ' p st' fun b u h1 h2 h => ?_
        · rw [updM_ne (Ne.symm ne)]; exact hc2
        · exact f b u h1 h2 (by rw [updM_ne h1, updM_ne h2]; exact h)
      (conv => whnf)
      refine ⟨h10, ?_⟩
      (conv => whnf)
      split
      · refine ⟨_, rfl, fun i => ?_⟩
        ((conv => whnf); (repeat ((first | rw [hs2]); (conv => whnf))))
        exact fin i
      · ((conv => whnf); (repeat ((first | rw [hs2]); (conv => whnf))))
        exact fin _
    · exact take_tail h0 h1 st k
  · exact take_tail h0 h1 st k
def zMixed : ZS :=
  (zSeq (zAsg (zOp zMod (zCB zToInt (zCons (zVar 0) zNil)) (zC (.int 1000000007))) (zgName 1)) (zSeq (zAsg (zC (.int 0)) (zgName 2)) (zSeq (zFor (ziRng1 (zCons (zC (.int 6)) zNil)) (zgName 3) (zSeq (zAsg (zOp zMod (zCB zToInt (zCons (zOp zAdd (zOp zAdd (zOp zMul (zVar 1) (zC (.int 48271))) (zC (.int 12820163))) (zOp zMul (zC (.int 7)) (zVar 3))) zNil)) (zC (.int 1000000007))) (zgName 1)) (zAsg (zOp zAdd (zOp zMul (zVar 2) (zC (.int 1000000007))) (zVar 1)) (zgName 2)))) (zRet (zVar 2)))))
theorem cmul_small {i j : Int} (h1 : i.natAbs < 2 ^ 250) (h2 : j.natAbs < 2 ^ 250) : CMulW i j := wide_mul h1 h2 (by decide) (by decide) (by decide)
theorem natAbs_lt {i : Int} {n : Nat} (h0 : 0 ≤ i) (h : i < (n : Int)) : i.natAbs < n := by omega
theorem mixed_ok {ds : List D} {μ : Mu} {q : ZQ} {e : ZX} (h : Smixed ds μ q e) : zBody 4 zMixed ds μ q e := by
  obtain ⟨cell, rfl, k⟩ := h
  unfold zMixed
  (conv => whnf)
  refine ⟨(by decide : (0 : Int) < 1000000007), ?_⟩
  (conv => whnf)
  refine ⟨by decide, by decide, ?_⟩
  refine for_inv (Inv := fun i ρ μ' => μ' = μ ∧ ∃ (seed num : Int) (o : Option D), ρ = [some (.int cell), some (.int seed), some (.int num), o] ∧ 0 ≤ seed ∧ seed < 1000000007 ∧ 0 ≤ num ∧ num < (2 : Int) ^ (30 * i)) ?_ ?_ ?_
  · exact ⟨rfl, _, _, _, rfl, Int.emod_nonneg _ (by decide), Int.emod_lt_of_pos _ (by decide), by decide, by decide⟩
  · rintro i d ρ μ' K hd ⟨rfl, seed, num, o, rfl, s0, s1, n0, n1⟩ hK
    simp only [List.getElem?_map, Option.map_eq_some_iff, List.getElem?_eq_some_iff] at hd
    obtain ⟨j, ⟨hj, ej⟩, rfl⟩ := hd
    have hj6 : i < 6 := by simpa using hj
    have ej2 : j = i := by rw [← ej]; simp
    subst ej2
    (conv => whnf)
    refine ⟨cmul_small (by omega) (by decide), ?_⟩
    (conv => whnf)
    refine ⟨cmul_small (by decide) (by omega), ?_⟩
    (conv => whnf)
    refine ⟨(by decide : (0 : Int) < 1000000007), ?_⟩
    (conv => whnf)
    have hb : (2 : Int) ^ (30 * j) ≤ 2 ^ 180 := by
      have : (2 : Nat) ^ (30 * j) ≤ 2 ^ 180 := Nat.pow_le_pow_right (by decide) (by omega)
      exact_mod_cast this
    refine ⟨cmul_small (by omega) (by decide), ?_⟩
    (conv => whnf)
    refine hK _ _ ⟨rfl, _, _, _, rfl, Int.emod_nonneg _ (by decide), Int.emod_lt_of_pos _ (by decide), ?_, ?_⟩
    · have := Int.emod_nonneg (seed * 48271 + 12820163 + 7 * (0 + (j : Int))) (show (1000000007 : Int) ≠ 0 by decide)
      show 0 ≤ num * 1000000007 + (seed * 48271 + 12820163 + 7 * (0 + (j : Int))) % 1000000007
      omega
    · have h1 := Int.emod_lt_of_pos (seed * 48271 + 12820163 + 7 * (0 + (j : Int))) (show (0 : Int) < 1000000007 by decide)
      have e1 : (2 : Int) ^ (30 * (j + 1)) = 2 ^ (30 * j) * 1073741824 := by rw [Nat.mul_add, Int.pow_add]; rfl
      show num * 1000000007 + (seed * 48271 + 12820163 + 7 * (0 + (j : Int))) % 1000000007 < _
      rw [e1]
      omega
  · rintro ρ μ' ⟨rfl, seed, num, o, rfl, _⟩
    exact k num
def zState : ZS :=
  (zRet (zLstO (zCons (zLcO (ziSeq (zSlice (zVar 0) zNoP (zPart (zC (.int 63))))) (zgName 1) zYes (zCB zToInt (zCons (zVar 1) zNil)) [1]) (zCons (zC (.int 0)) zNil))))
/-- the script's first cells, a state anew -/
def Sstate : Zp := fun ds μ q _ => ∃ ns : List Int, ds = [.klst (ns.map .int)] ∧ ns.length ≤ 63 ∧ ∀ s c μ', StAt s c μ' → (∀ b u, μ b = some u → μ' b = some u) → μ s = none → μ c = none → q (.ref s) μ'
theorem cut_all {α : Type} {xs : List α} (h : xs.length ≤ 63) : cutD xs none (some 63) = xs := by
  have e1 : HT.sIx xs.length 0 none = 0 := rfl
  have e2 : HT.sIx xs.length xs.length (some 63) = xs.length := by
    have := HT.sIx_nat xs.length xs.length 63
    rw [show ((63 : Nat) : Int) = 63 from rfl] at this
    rw [this]
    omega
  unfold cutD
  rw [e1, e2, List.drop_zero, Nat.sub_zero, List.take_length]
theorem state_ok {ds : List D} {μ : Mu} {q : ZQ} {e : ZX} (h : Sstate ds μ q e) : zBody 2 zState ds μ q e := by
  obtain ⟨ns, rfl, hn, k⟩ := h
  have sz : (1000 : Nat) ≤ sizeLine := by decide
  unfold zState
  (conv => whnf)
  rw [cut_all (by simpa using hn)]
  refine ⟨by simp; omega, ?_⟩
  refine lc_inv (Inv := fun i acc μ' => μ' = μ ∧ acc = (ns.take i).map .int) ⟨rfl, rfl⟩ ?_ ?_
  · rintro i d acc μ' K hd ⟨rfl, rfl⟩ hK
    simp only [List.getElem?_map, Option.map_eq_some_iff] at hd
    obtain ⟨n, hn2, rfl⟩ := hd
    (conv => whnf)
    refine hK _ _ ⟨rfl, ?_⟩
    rw [List.take_add_one, hn2]
    simp
  · rintro acc μ' ⟨rfl, rfl⟩
    intro c hc
    (conv => whnf)
    intro s hs
    have ne : s ≠ c := fun e => by
      rw [e, updM_same] at hs
      cases hs
    refine k s c _ ⟨ne, ⟨ns, ?_⟩, 0, updM_same⟩ (fun b u hb => ?_) ?_ hc
    · rw [updM_ne (Ne.symm ne), updM_same]
      simp
    · rw [updM_ne (fun e => ?_), updM_ne (fun e => ?_)]
      · exact hb
      · rw [e, hc] at hb; cases hb
      · rw [e] at hb
        rw [updM_ne ne] at hs
        rw [hs] at hb; cases hb
    · rw [updM_ne ne] at hs
      exact hs
end Z

set_option maxRecDepth 100000
set_option maxHeartbeats 4000000
namespace Z
open PySem L2
/-! the text by places -/
def top (i : Nat) : Stmt := PySem.Challenge.pw_aliasfold_k40_well_formed_trees.main.body.getD i (.Pass ⟨0, 0, 0, 0⟩)
def v_PRIMS : List (Str × Int) := [("+", 2), ("-", 2), ("*", 2), ("<", 2), ("=", 2), ("pair", 2), ("first", 1), ("second", 1)]
def own_ : List Addr := []
structure Fx (w : World) (K : PySem.W.Frag) (mg : Str → Option Value) : Prop where
  b_abs : mg "abs" = none
  b_all : mg "all" = none
  b_bool : mg "bool" = none
  b_int : mg "int" = none
  b_isinstance : mg "isinstance" = none
  b_len : mg "len" = none
  b_list : mg "list" = none
  b_max : mg "max" = none
  b_range : mg "range" = none
  b_tuple : mg "tuple" = none
  c_MOST_DEPTH : ∃ t, mg "MOST_DEPTH" = some (.int (100) t)
  c_MOST_NUMBER : ∃ t, mg "MOST_NUMBER" = some (.int (9999999999999999999999999999999999999999) t)
  c_PRIMS : CKD K w mg "PRIMS" v_PRIMS
  own : ∀ C ∈ own_, ClsTy K C
  isi_bool : Isi K own_ .bool
section
variable {P : Program} {w : World} {K : PySem.W.Frag} {mg : Str → Option Value} {base : Heap}
/-! ### unlike -/
abbrev s_unlike : Stmt := top 4
theorem sc_unlike : FnScope ["numbers", "number"] ["numbers"] (defScope s_unlike) := ⟨rfl, rfl, rfl, by decide +kernel, rfl, by decide +kernel, by decide +kernel⟩
def z_unlike  : ZS :=
  (zRet (zOp zEq (zLenSc (ziSeq (zVar 0)) (zgName 1) zYes (zVar 1) [1]) (zCB zLen (zCons (zVar 0) zNil))))
theorem ok_unlike {k : Nat}  (fx : Fx w K mg) (d : Def K mg "unlike" s_unlike ["numbers"])  : Cal P w K mg base (k + 1) "unlike" ["numbers"] (zBody 2 (z_unlike )) :=
  Cal.mk (N := ["numbers", "number"]) d sc_unlike fun f cdv A outer s H E cx => ⟨_, by exact (zsone (zret (zcmp (op_eqAll cx.hu64) lf_eq (zlensc cx fx.b_len (ziseq (zv 0)) (own := [("number", 1)]) (blkOk_by rfl) (fun _ _ _ _ _ => (zgn 1 (by exact cx.nd))) (fun _ _ _ _ _ => gown_name) (fun _ _ _ _ _ cx => zptsnil) (fun _ _ _ _ _ cx => (zv 1))) (zcallB call_lenAll lf_len fx.b_len (zcons (zv 0) znil)))))⟩
/-! ### let_fits -/
abbrev s_let_fits : Stmt := top 5
theorem sc_let_fits : FnScope ["core", "known", "depth", "numbers", "_", "part", "number"] ["core", "known", "depth"] (defScope s_let_fits) := ⟨rfl, rfl, rfl, by decide +kernel, rfl, by decide +kernel, by decide +kernel⟩
def z_let_fits (S_unlike : Zp) (S_fits : Zp) : ZS :=
  (zSeq (zAsg (zLc (ziSeq (zOp zIx (zVar 0) (zC (.int 1)))) (zgTup 2 (zgCons (zgName 6) (zgCons (zgName 4) zgNil))) zYes (zVar 6) [6, 4]) (zgName 3)) (zSeq (zIfS (zNot (zTru (zCall S_unlike (zCons (zVar 3) zNil)))) (zRet (zC (.bl false))) zNext) (zSeq (zFor (ziSeq (zOp zIx (zVar 0) (zC (.int 1)))) (zgTup 2 (zgCons (zgName 4) (zgCons (zgName 5) zgNil))) (zIfS (zNot (zTru (zCall S_fits (zCons (zVar 5) (zCons (zVar 1) (zCons (zOp zAdd (zVar 2) (zC (.int 1))) zNil)))))) (zRet (zC (.bl false))) zNext)) (zRet (zCall S_fits (zCons (zOp zIx (zVar 0) (zC (.int 2))) (zCons (zOp zAdd (zVar 1) (zVar 3)) (zCons (zOp zAdd (zVar 2) (zC (.int 1))) zNil))))))))
theorem ok_let_fits {k : Nat} {S_unlike : Zp} {S_fits : Zp} (fx : Fx w K mg) (d : Def K mg "let_fits" s_let_fits ["core", "known", "depth"]) (c_unlike : Cal P w K mg base k "unlike" ["numbers"] S_unlike) (c_fits : Cal P w K mg base k "fits" ["core", "known", "depth"] S_fits) : Cal P w K mg base (k + 1) "let_fits" ["core", "known", "depth"] (zBody 7 (z_let_fits S_unlike S_fits)) :=
  Cal.mk (N := ["core", "known", "depth", "numbers", "_", "part", "number"]) d sc_let_fits fun f cdv A outer s H E cx => ⟨_, by exact (zscons (zsetLc 3 cx (ziseq (zix (ix_all cx.hu) lf_ix (zv 0) zint)) (own := [("number", 6), ("_", 4)]) (blkOk_by rfl) (fun _ _ _ _ _ => (zgtup (by exact cx.calm) (zgscons (zgn 6 (by exact cx.nd)) (zgscons (zgn 4 (by exact cx.nd)) zgsnil)))) (fun _ _ _ _ _ => (gown_tup (gsown_cons gown_name (gsown_cons gown_name gsown_nil)))) (fun _ _ _ _ _ cx => zptsnil) (fun _ _ _ _ _ cx => (zv 6)) (sw_true rfl rfl rfl (by decide +kernel))) (zscons (zif (znot (ztru (zcal cx c_unlike (zcons (zv 3) znil)))) (zsone (zret zbl)) zsnil) (zscons (zfor cx (ziseq (zix (ix_all cx.hu) lf_ix (zv 0) zint)) (zgtup cx.calm (zgscons (zgn 4 cx.nd) (zgscons (zgn 5 cx.nd) zgsnil))) (zsone (zif (znot (ztru (zcal cx c_fits (zcons (zv 5) (zcons (zv 1) (zcons (zop op_addAll lf_add (zv 2) zint) znil)))))) (zsone (zret zbl)) zsnil))) (zsone (zret (zcal cx c_fits (zcons (zix (ix_all cx.hu) lf_ix (zv 0) zint) (zcons (zop op_addAll lf_add (zv 1) (zv 3)) (zcons (zop op_addAll lf_add (zv 2) zint) znil)))))))))⟩
/-! ### fits -/
abbrev s_fits : Stmt := top 6
theorem sc_fits : FnScope ["core", "known", "depth", "kind", "parts", "part"] ["core", "known", "depth"] (defScope s_fits) := ⟨rfl, rfl, rfl, by decide +kernel, rfl, by decide +kernel, by decide +kernel⟩
def z_fits (S_unlike : Zp) (S_fits : Zp) (S_let_fits : Zp) : ZS :=
  (zSeq (zIfS (zTst (zOp zGt (zVar 2) (zC (.int (100))))) (zRet (zC (.bl false))) zNext) (zSeq (zAsg (zOp zIx (zVar 0) (zC (.int 0))) (zgName 3)) (zSeq (zIfS (zTst (zOp zEq (zVar 3) (zC (.str "int")))) (zRet (zChain zLe zLe (zOp zSub (zC (.int 0)) (zC (.int (9999999999999999999999999999999999999999)))) (zOp zIx (zVar 0) (zC (.int 1))) (zC (.int (9999999999999999999999999999999999999999))))) zNext) (zSeq (zIfS (zTst (zOp zEq (zVar 3) (zC (.str "local")))) (zRet (zOp zIn (zOp zIx (zVar 0) (zC (.int 1))) (zVar 1))) zNext) (zSeq (zIfS (zTst (zOp zEq (zVar 3) (zC (.str "global")))) (zRet (zC (.bl true))) zNext) (zSeq (zIfS (zTst (zOp zEq (zVar 3) (zC (.str "prim")))) (zRet (zUn (zInK v_PRIMS) (zOp zIx (zVar 0) (zC (.int 1))))) zNext) (zSeq (zIfS (zTst (zOp zEq (zVar 3) (zC (.str "fn")))) (zRet (zAndV (zCall S_unlike (zCons (zOp zIx (zVar 0) (zC (.int 1))) zNil)) (zCall S_fits (zCons (zOp zIx (zVar 0) (zC (.int 2))) (zCons (zOp zAdd (zVar 1) (zCB zToList (zCons (zOp zIx (zVar 0) (zC (.int 1))) zNil))) (zCons (zOp zAdd (zVar 2) (zC (.int 1))) zNil)))))) zNext) (zSeq (zIfS (zTst (zOp zEq (zVar 3) (zC (.str "let")))) (zRet (zCall S_let_fits (zCons (zVar 0) (zCons (zVar 1) (zCons (zVar 2) zNil))))) zNext) (zSeq (zAsg (zIf (zTst (zOp zEq (zVar 3) (zC (.str "if")))) (zSlice (zVar 0) (zPart (zC (.int 1))) zNoP) (zOp zAdd (zTup (zCons (zOp zIx (zVar 0) (zC (.int 1))) zNil)) (zOp zIx (zVar 0) (zC (.int 2))))) (zgName 4)) (zRet (zCB zAll (zCons (zLc (ziSeq (zVar 4)) (zgName 5) zYes (zCall S_fits (zCons (zVar 5) (zCons (zVar 1) (zCons (zOp zAdd (zVar 2) (zC (.int 1))) zNil)))) [5]) zNil))))))))))))
theorem ok_fits {k : Nat} {S_unlike : Zp} {S_fits : Zp} {S_let_fits : Zp} (fx : Fx w K mg) (d : Def K mg "fits" s_fits ["core", "known", "depth"]) (c_unlike : Cal P w K mg base k "unlike" ["numbers"] S_unlike) (c_fits : Cal P w K mg base k "fits" ["core", "known", "depth"] S_fits) (c_let_fits : Cal P w K mg base k "let_fits" ["core", "known", "depth"] S_let_fits) : Cal P w K mg base (k + 1) "fits" ["core", "known", "depth"] (zBody 6 (z_fits S_unlike S_fits S_let_fits)) :=
  Cal.mk (N := ["core", "known", "depth", "kind", "parts", "part"]) d sc_fits fun f cdv A outer s H E cx => ⟨_, by exact (zscons (zif (ztcmp op_gt lf_cmpI (zv 2) (zglobI fx.c_MOST_DEPTH)) (zsone (zret zbl)) zsnil) (zscons (zset 3 cx.nd (zix (ix_all cx.hu) lf_ix (zv 0) zint)) (zscons (zif (ztcmp (op_eqAll cx.hu64) lf_eq (zv 3) zstr) (zsone (zret (zchain op_le lf_cmpI op_le lf_cmpI (zop op_sub lf_sub zint (zglobI fx.c_MOST_NUMBER)) (zix (ix_all cx.hu) lf_ix (zv 0) zint) (zglobI fx.c_MOST_NUMBER)))) zsnil) (zscons (zif (ztcmp (op_eqAll cx.hu64) lf_eq (zv 3) zstr) (zsone (zret (zcmp (op_inAll cx.hu) lf_in (zix (ix_all cx.hu) lf_ix (zv 0) zint) (zv 1)))) zsnil) (zscons (zif (ztcmp (op_eqAll cx.hu64) lf_eq (zv 3) zstr) (zsone (zret zbl)) zsnil) (zscons (zif (ztcmp (op_eqAll cx.hu64) lf_eq (zv 3) zstr) (zsone (zret (zx (zcmpIn fx.c_PRIMS (zix (ix_all cx.hu) lf_ix (zv 0) zint))))) zsnil) (zscons (zif (ztcmp (op_eqAll cx.hu64) lf_eq (zv 3) zstr) (zsone (zret (zandV (zcal cx c_unlike (zcons (zix (ix_all cx.hu) lf_ix (zv 0) zint) znil)) (zone (zcal cx c_fits (zcons (zix (ix_all cx.hu) lf_ix (zv 0) zint) (zcons (zop op_addAll lf_add (zv 1) (zcallT call_list_of lf_toList fx.b_list (zcons (zix (ix_all cx.hu) lf_ix (zv 0) zint) znil))) (zcons (zop op_addAll lf_add (zv 2) zint) znil)))))))) zsnil) (zscons (zif (ztcmp (op_eqAll cx.hu64) lf_eq (zv 3) zstr) (zsone (zret (zcal cx c_let_fits (zcons (zv 0) (zcons (zv 1) (zcons (zv 2) znil)))))) zsnil) (zscons (zset 4 cx.nd (zifx (ztcmp (op_eqAll cx.hu64) lf_eq (zv 3) zstr) (zslice (zv 0) (zpart zint) znop) (zop op_addAll lf_add (ztup (zcons (zix (ix_all cx.hu) lf_ix (zv 0) zint) znil)) (zix (ix_all cx.hu) lf_ix (zv 0) zint)))) (zsone (zret (zcallB (cr_all cx.calm) lf_all fx.b_all (zcons (zlc cx (ziseq (zv 4)) (own := [("part", 5)]) (blkOk_by rfl) (fun _ _ _ _ _ => (zgn 5 (by exact cx.nd))) (fun _ _ _ _ _ => gown_name) (fun _ _ _ _ _ cx => zptsnil) (fun _ _ _ _ _ cx => (zcal cx c_fits (zcons (zv 5) (zcons (zv 1) (zcons (zop op_addAll lf_add (zv 2) zint) znil)))))) znil)))))))))))))⟩
/-! ### well_formed -/
abbrev s_well_formed : Stmt := top 7
theorem sc_well_formed : FnScope ["core", "known"] ["core", "known"] (defScope s_well_formed) := ⟨rfl, rfl, rfl, by decide +kernel, rfl, by decide +kernel, by decide +kernel⟩
def z_well_formed (S_fits : Zp) : ZS :=
  (zRet (zCall S_fits (zCons (zVar 0) (zCons (zCB zToList (zCons (zVar 1) zNil)) (zCons (zC (.int 1)) zNil)))))
theorem ok_well_formed {k : Nat} {S_fits : Zp} (fx : Fx w K mg) (d : Def K mg "well_formed" s_well_formed ["core", "known"]) (c_fits : Cal P w K mg base k "fits" ["core", "known", "depth"] S_fits) : Cal P w K mg base (k + 1) "well_formed" ["core", "known"] (zBody 2 (z_well_formed S_fits)) :=
  Cal.mk (N := ["core", "known"]) d sc_well_formed fun f cdv A outer s H E cx => ⟨_, by exact (zsone (zret (zcal cx c_fits (zcons (zv 0) (zcons (zcallT call_list_of lf_toList fx.b_list (zcons (zv 1) znil)) (zcons zint znil))))))⟩
/-! ### _law_mixed -/
abbrev s__law_mixed : Stmt := top 9
theorem sc__law_mixed : FnScope ["_law_cell", "_law_seed", "_law_number_here", "_law_k"] ["_law_cell"] (defScope s__law_mixed) := ⟨rfl, rfl, rfl, by decide +kernel, rfl, by decide +kernel, by decide +kernel⟩
def z__law_mixed  : ZS :=
  (zSeq (zAsg (zOp zMod (zCB zToInt (zCons (zVar 0) zNil)) (zC (.int 1000000007))) (zgName 1)) (zSeq (zAsg (zC (.int 0)) (zgName 2)) (zSeq (zFor (ziRng1 (zCons (zC (.int 6)) zNil)) (zgName 3) (zSeq (zAsg (zOp zMod (zCB zToInt (zCons (zOp zAdd (zOp zAdd (zOp zMul (zVar 1) (zC (.int 48271))) (zC (.int 12820163))) (zOp zMul (zC (.int 7)) (zVar 3))) zNil)) (zC (.int 1000000007))) (zgName 1)) (zAsg (zOp zAdd (zOp zMul (zVar 2) (zC (.int 1000000007))) (zVar 1)) (zgName 2)))) (zRet (zVar 2)))))
theorem ok__law_mixed {k : Nat}  (fx : Fx w K mg) (d : Def K mg "_law_mixed" s__law_mixed ["_law_cell"])  : Cal P w K mg base (k + 1) "_law_mixed" ["_law_cell"] (zBody 4 (z__law_mixed )) :=
  Cal.mk (N := ["_law_cell", "_law_seed", "_law_number_here", "_law_k"]) d sc__law_mixed fun f cdv A outer s H E cx => ⟨_, by exact (zscons (zset 1 cx.nd (zop op_mod lf_I2 (zcallT call_toInt lf_toInt fx.b_int (zcons (zv 0) znil)) zint)) (zscons (zset 2 cx.nd zint) (zscons (zfor cx (zirng1 fx.b_range (zcons zint znil)) (zgn 3 cx.nd) (zscons (zset 1 cx.nd (zop op_mod lf_I2 (zcallT call_toInt lf_toInt fx.b_int (zcons (zop op_addAll lf_add (zop op_addAll lf_add (zop op_mulAll lf_mulAll (zv 1) zint) zint) (zop op_mulAll lf_mulAll zint (zv 3))) znil)) zint)) (zsone (zset 2 cx.nd (zop op_addAll lf_add (zop op_mulAll lf_mulAll (zv 2) zint) (zv 1)))))) (zsone (zret (zv 2))))))⟩
/-! ### _law_take -/
abbrev s__law_take : Stmt := top 10
theorem sc__law_take : FnScope ["_law_state_here", "_law_limit", "_law_cell", "_law_digit"] ["_law_state_here", "_law_limit"] (defScope s__law_take) := ⟨rfl, rfl, rfl, by decide +kernel, rfl, by decide +kernel, by decide +kernel⟩
def z__law_take (S__law_mixed : Zp) : ZS :=
  (zSeq (zIfS (zAnd (zTst (zOp zLt (zOp zIx (zVar 0) (zC (.int 1))) (zVar 1))) (zTst (zOp zGt (zCB zLen (zCons (zOp zIx (zVar 0) (zC (.int 0))) zNil)) (zC (.int 0))))) (zSeq (zAsg (zCB zAbs (zCons (zCB zToInt (zCons (zBM isL zPop (zOp zIx (zVar 0) (zC (.int 0))) (zCons (zC (.int 0)) zNil)) zNil)) zNil)) (zgName 2)) (zSeq (zIfS (zTst (zOp zLt (zVar 2) (zOp zPow (zC (.int 10)) (zC (.int 18))))) (zAsg (zCall S__law_mixed (zCons (zVar 2) zNil)) (zgName 2)) zNext) (zSetS (zVar 0) (zC (.int 1)) (zVar 2)))) zNext) (zSeq (zAsg (zOp zMod (zCB zToInt (zCons (zOp zIx (zVar 0) (zC (.int 1))) zNil)) (zVar 1)) (zgName 3)) (zSeq (zSetS (zVar 0) (zC (.int 1)) (zOp zDiv (zOp zIx (zVar 0) (zC (.int 1))) (zVar 1))) (zRet (zVar 3)))))
theorem ok__law_take {k : Nat} {S__law_mixed : Zp} (fx : Fx w K mg) (d : Def K mg "_law_take" s__law_take ["_law_state_here", "_law_limit"]) (c__law_mixed : Cal P w K mg base k "_law_mixed" ["_law_cell"] S__law_mixed) : Cal P w K mg base (k + 1) "_law_take" ["_law_state_here", "_law_limit"] (zBody 4 (z__law_take S__law_mixed)) :=
  Cal.mk (N := ["_law_state_here", "_law_limit", "_law_cell", "_law_digit"]) d sc__law_take fun f cdv A outer s H E cx => ⟨_, by exact (zscons (zif (ztw (zand (ztcmp op_lt lf_cmpI (zix (ix_all cx.hu) lf_ix (zv 0) zint) (zv 1)) (zand1 (ztcmp op_gt lf_cmpI (zcallB call_lenAll lf_len fx.b_len (zcons (zix (ix_all cx.hu) lf_ix (zv 0) zint) znil)) zint)))) (zscons (zset 2 cx.nd (zcallB call_abs lf_abs fx.b_abs (zcons (zcallT call_toInt lf_toInt fx.b_int (zcons (zbm PySem.F.plainAttrs_list PySem.F.slot_list_pop PySem.F.type_list_pop mt_popAll lf_pop tyf_l (zix (ix_all cx.hu) lf_ix (zv 0) zint) (zcons zint znil)) znil)) znil))) (zscons (zif (ztcmp op_lt lf_cmpI (zv 2) (zop op_pow lf_I2 zint zint)) (zsone (zset 2 cx.nd (zcal cx c__law_mixed (zcons (zv 2) znil)))) zsnil) (zsone (zsub cx (zv 0) zint (zv 2))))) zsnil) (zscons (zset 3 cx.nd (zop op_mod lf_I2 (zcallT call_toInt lf_toInt fx.b_int (zcons (zix (ix_all cx.hu) lf_ix (zv 0) zint) znil)) (zv 1))) (zscons (zsub cx (zv 0) zint (zop op_fdivW lf_I2 (zix (ix_all cx.hu) lf_ix (zv 0) zint) (zv 1))) (zsone (zret (zv 3))))))⟩
/-! ### _law_state -/
abbrev s__law_state : Stmt := top 11
theorem sc__law_state : FnScope ["_law_script", "_law_cell"] ["_law_script"] (defScope s__law_state) := ⟨rfl, rfl, rfl, by decide +kernel, rfl, by decide +kernel, by decide +kernel⟩
def z__law_state  : ZS :=
  (zRet (zLstO (zCons (zLcO (ziSeq (zSlice (zVar 0) zNoP (zPart (zC (.int 63))))) (zgName 1) zYes (zCB zToInt (zCons (zVar 1) zNil)) [1]) (zCons (zC (.int 0)) zNil))))
theorem ok__law_state {k : Nat}  (fx : Fx w K mg) (d : Def K mg "_law_state" s__law_state ["_law_script"])  : Cal P w K mg base (k + 1) "_law_state" ["_law_script"] (zBody 2 (z__law_state )) :=
  Cal.mk (N := ["_law_script", "_law_cell"]) d sc__law_state fun f cdv A outer s H E cx => ⟨_, by exact (zsone (zret (zlstO (zcons (zlcO cx (ziseq (zslice (zv 0) znop (zpart zint))) (own := [("_law_cell", 1)]) (blkOk_by rfl) (fun _ _ _ _ _ => (zgn 1 (by exact cx.nd))) (fun _ _ _ _ _ => gown_name) (fun _ _ _ _ _ cx => zptsnil) (fun _ _ _ _ _ cx => (zcallT call_toInt lf_toInt fx.b_int (zcons (zv 1) znil)))) (zcons zint znil)))))⟩
/-! ### _law_number -/
abbrev s__law_number : Stmt := top 12
theorem sc__law_number : FnScope ["_law_state_here"] ["_law_state_here"] (defScope s__law_number) := ⟨rfl, rfl, rfl, by decide +kernel, rfl, by decide +kernel, by decide +kernel⟩
def z__law_number (S__law_take : Zp) : ZS :=
  (zRet (zOp zIx (zLst (zCons (zCall S__law_take (zCons (zVar 0) (zCons (zC (.int 4)) zNil))) (zCons (zCall S__law_take (zCons (zVar 0) (zCons (zC (.int 4)) zNil))) (zCons (zCall S__law_take (zCons (zVar 0) (zCons (zC (.int 1000000001)) zNil))) zNil)))) (zCall S__law_take (zCons (zVar 0) (zCons (zC (.int 3)) zNil)))))
theorem ok__law_number {k : Nat} {S__law_take : Zp} (fx : Fx w K mg) (d : Def K mg "_law_number" s__law_number ["_law_state_here"]) (c__law_take : Cal P w K mg base k "_law_take" ["_law_state_here", "_law_limit"] S__law_take) : Cal P w K mg base (k + 1) "_law_number" ["_law_state_here"] (zBody 1 (z__law_number S__law_take)) :=
  Cal.mk (N := ["_law_state_here"]) d sc__law_number fun f cdv A outer s H E cx => ⟨_, by exact (zsone (zret (zix (ix_all cx.hu) lf_ix (zlst (zcons (zcal cx c__law_take (zcons (zv 0) (zcons zint znil))) (zcons (zcal cx c__law_take (zcons (zv 0) (zcons zint znil))) (zcons (zcal cx c__law_take (zcons (zv 0) (zcons zint znil))) znil)))) (zcal cx c__law_take (zcons (zv 0) (zcons zint znil))))))⟩
/-! ### _law_unlike -/
abbrev s__law_unlike : Stmt := top 13
theorem sc__law_unlike : FnScope ["_law_state_here", "_law_count", "_law_numbers", "_law_k", "_law_number_here"] ["_law_state_here", "_law_count"] (defScope s__law_unlike) := ⟨rfl, rfl, rfl, by decide +kernel, rfl, by decide +kernel, by decide +kernel⟩
def z__law_unlike (S__law_number : Zp) : ZS :=
  (zSeq (zAsg (zLstO zNil) (zgName 2)) (zSeq (zFor (ziRng1 (zCons (zVar 1) zNil)) (zgName 3) (zSeq (zAsg (zCall S__law_number (zCons (zVar 0) zNil)) (zgName 4)) (zIfS (zTst (zOp zNotIn (zVar 4) (zVar 2))) (zDrop (zBM isL zAppend (zVar 2) (zCons (zVar 4) zNil))) zNext))) (zRet (zCB zToTup (zCons (zVar 2) zNil)))))
theorem ok__law_unlike {k : Nat} {S__law_number : Zp} (fx : Fx w K mg) (d : Def K mg "_law_unlike" s__law_unlike ["_law_state_here", "_law_count"]) (c__law_number : Cal P w K mg base k "_law_number" ["_law_state_here"] S__law_number) : Cal P w K mg base (k + 1) "_law_unlike" ["_law_state_here", "_law_count"] (zBody 5 (z__law_unlike S__law_number)) :=
  Cal.mk (N := ["_law_state_here", "_law_count", "_law_numbers", "_law_k", "_law_number_here"]) d sc__law_unlike fun f cdv A outer s H E cx => ⟨_, by exact (zscons (zset 2 cx.nd (zlstO znil)) (zscons (zfor cx (zirng1 fx.b_range (zcons (zv 1) znil)) (zgn 3 cx.nd) (zscons (zset 4 cx.nd (zcal cx c__law_number (zcons (zv 0) znil))) (zsone (zif (ztcmp (op_notInAll cx.hu) lf_notIn (zv 4) (zv 2)) (zsone (zexpr (zbm PySem.F.plainAttrs_list PySem.F.slot_list_append PySem.F.type_list_append mt_append lf_append tyf_l (zv 2) (zcons (zv 4) znil)))) zsnil)))) (zsone (zret (zcallT call_tuple_of lf_toTup fx.b_tuple (zcons (zv 2) znil))))))⟩
/-! ### _law_leaf -/
abbrev s__law_leaf : Stmt := top 14
theorem sc__law_leaf : FnScope ["_law_state_here", "_law_known", "_law_pick"] ["_law_state_here", "_law_known"] (defScope s__law_leaf) := ⟨rfl, rfl, rfl, by decide +kernel, rfl, by decide +kernel, by decide +kernel⟩
def z__law_leaf (S__law_take : Zp) (S__law_integer : Zp) : ZS :=
  (zSeq (zAsg (zCall S__law_take (zCons (zVar 0) (zCons (zC (.int 5)) zNil))) (zgName 2)) (zSeq (zIfS (zAnd (zTst (zOp zEq (zVar 2) (zC (.int 0)))) (zTst (zOp zGt (zCB zLen (zCons (zVar 1) zNil)) (zC (.int 0))))) (zRet (zTup (zCons (zC (.str "local")) (zCons (zOp zIx (zVar 1) (zCall S__law_take (zCons (zVar 0) (zCons (zCB zLen (zCons (zVar 1) zNil)) zNil)))) zNil)))) zNext) (zSeq (zIfS (zTst (zOp zEq (zVar 2) (zC (.int 1)))) (zRet (zTup (zCons (zC (.str "prim")) (zCons (zOp zIx (zLst (zCons (zC (.str "+")) (zCons (zC (.str "-")) (zCons (zC (.str "*")) (zCons (zC (.str "<")) (zCons (zC (.str "=")) (zCons (zC (.str "pair")) (zCons (zC (.str "first")) (zCons (zC (.str "second")) zNil))))))))) (zCall S__law_take (zCons (zVar 0) (zCons (zC (.int 8)) zNil)))) zNil)))) zNext) (zSeq (zIfS (zTst (zOp zEq (zVar 2) (zC (.int 2)))) (zRet (zTup (zCons (zC (.str "global")) (zCons (zOp zIx (zLst (zCons (zC (.str "m")) (zCons (zC (.str "a-b")) (zCons (zC (.str "...")) zNil)))) (zCall S__law_take (zCons (zVar 0) (zCons (zC (.int 3)) zNil)))) (zCons (zOp zIx (zLst (zCons (zC (.str "x")) (zCons (zC (.str "f2")) (zCons (zC (.str "+")) zNil)))) (zCall S__law_take (zCons (zVar 0) (zCons (zC (.int 3)) zNil)))) zNil))))) zNext) (zRet (zTup (zCons (zC (.str "int")) (zCons (zCall S__law_integer (zCons (zVar 0) zNil)) zNil))))))))
theorem ok__law_leaf {k : Nat} {S__law_take : Zp} {S__law_integer : Zp} (fx : Fx w K mg) (d : Def K mg "_law_leaf" s__law_leaf ["_law_state_here", "_law_known"]) (c__law_take : Cal P w K mg base k "_law_take" ["_law_state_here", "_law_limit"] S__law_take) (c__law_integer : Cal P w K mg base k "_law_integer" ["_law_state_here"] S__law_integer) : Cal P w K mg base (k + 1) "_law_leaf" ["_law_state_here", "_law_known"] (zBody 3 (z__law_leaf S__law_take S__law_integer)) :=
  Cal.mk (N := ["_law_state_here", "_law_known", "_law_pick"]) d sc__law_leaf fun f cdv A outer s H E cx => ⟨_, by exact (zscons (zset 2 cx.nd (zcal cx c__law_take (zcons (zv 0) (zcons zint znil)))) (zscons (zif (ztw (zand (ztcmp (op_eqAll cx.hu64) lf_eq (zv 2) zint) (zand1 (ztcmp op_gt lf_cmpI (zcallB call_lenAll lf_len fx.b_len (zcons (zv 1) znil)) zint)))) (zsone (zret (ztup (zcons zstr (zcons (zix (ix_all cx.hu) lf_ix (zv 1) (zcal cx c__law_take (zcons (zv 0) (zcons (zcallB call_lenAll lf_len fx.b_len (zcons (zv 1) znil)) znil)))) znil))))) zsnil) (zscons (zif (ztcmp (op_eqAll cx.hu64) lf_eq (zv 2) zint) (zsone (zret (ztup (zcons zstr (zcons (zix (ix_all cx.hu) lf_ix (zlst (zcons zstr (zcons zstr (zcons zstr (zcons zstr (zcons zstr (zcons zstr (zcons zstr (zcons zstr znil))))))))) (zcal cx c__law_take (zcons (zv 0) (zcons zint znil)))) znil))))) zsnil) (zscons (zif (ztcmp (op_eqAll cx.hu64) lf_eq (zv 2) zint) (zsone (zret (ztup (zcons zstr (zcons (zix (ix_all cx.hu) lf_ix (zlst (zcons zstr (zcons zstr (zcons zstr znil)))) (zcal cx c__law_take (zcons (zv 0) (zcons zint znil)))) (zcons (zix (ix_all cx.hu) lf_ix (zlst (zcons zstr (zcons zstr (zcons zstr znil)))) (zcal cx c__law_take (zcons (zv 0) (zcons zint znil)))) znil)))))) zsnil) (zsone (zret (ztup (zcons zstr (zcons (zcal cx c__law_integer (zcons (zv 0) znil)) znil)))))))))⟩
/-! ### _law_tree -/
abbrev s__law_tree : Stmt := top 15
theorem sc__law_tree : FnScope ["_law_state_here", "_law_known", "_law_room", "_law_pick", "_law_numbers", "_law_pairs", "_law_parts", "_law_number_here", "_law_k"] ["_law_state_here", "_law_known", "_law_room"] (defScope s__law_tree) := ⟨rfl, rfl, rfl, by decide +kernel, rfl, by decide +kernel, by decide +kernel⟩
def z__law_tree (S__law_take : Zp) (S__law_leaf : Zp) (S__law_unlike : Zp) (S__law_tree : Zp) : ZS :=
  (zSeq (zAsg (zCall S__law_take (zCons (zVar 0) (zCons (zC (.int 7)) zNil))) (zgName 3)) (zSeq (zIfS (zOr (zTst (zOp zLt (zVar 2) (zC (.int 2)))) (zTst (zOp zLt (zVar 3) (zC (.int 2))))) (zRet (zCall S__law_leaf (zCons (zVar 0) (zCons (zVar 1) zNil)))) zNext) (zSeq (zIfS (zTst (zOp zEq (zVar 3) (zC (.int 2)))) (zSeq (zAsg (zCall S__law_unlike (zCons (zVar 0) (zCons (zCall S__law_take (zCons (zVar 0) (zCons (zC (.int 4)) zNil))) zNil))) (zgName 4)) (zRet (zTup (zCons (zC (.str "fn")) (zCons (zVar 4) (zCons (zCall S__law_tree (zCons (zVar 0) (zCons (zOp zAdd (zVar 1) (zCB zToList (zCons (zVar 4) zNil))) (zCons (zOp zSub (zVar 2) (zC (.int 1))) zNil)))) zNil)))))) zNext) (zSeq (zIfS (zTst (zOp zEq (zVar 3) (zC (.int 3)))) (zSeq (zAsg (zCall S__law_unlike (zCons (zVar 0) (zCons (zCall S__law_take (zCons (zVar 0) (zCons (zC (.int 4)) zNil))) zNil))) (zgName 4)) (zSeq (zAsg (zCB zToTup (zCons (zLc (ziSeq (zVar 4)) (zgName 7) zYes (zTup (zCons (zVar 7) (zCons (zCall S__law_tree (zCons (zVar 0) (zCons (zVar 1) (zCons (zOp zSub (zVar 2) (zC (.int 1))) zNil)))) zNil))) [7]) zNil)) (zgName 5)) (zRet (zTup (zCons (zC (.str "let")) (zCons (zVar 5) (zCons (zCall S__law_tree (zCons (zVar 0) (zCons (zOp zAdd (zVar 1) (zCB zToList (zCons (zVar 4) zNil))) (zCons (zOp zSub (zVar 2) (zC (.int 1))) zNil)))) zNil))))))) zNext) (zSeq (zAsg (zLc (ziRng1 (zCons (zC (.int 3)) zNil)) (zgName 8) zYes (zCall S__law_tree (zCons (zVar 0) (zCons (zVar 1) (zCons (zOp zSub (zVar 2) (zC (.int 1))) zNil)))) [8]) (zgName 6)) (zSeq (zIfS (zTst (zOp zEq (zVar 3) (zC (.int 4)))) (zRet (zTup (zCons (zC (.str "if")) (zCons (zOp zIx (zVar 6) (zC (.int 0))) (zCons (zOp zIx (zVar 6) (zC (.int 1))) (zCons (zOp zIx (zVar 6) (zC (.int 2))) zNil)))))) zNext) (zRet (zTup (zCons (zC (.str "call")) (zCons (zOp zIx (zVar 6) (zC (.int 0))) (zCons (zCB zToTup (zCons (zSlice (zVar 6) (zPart (zC (.int 1))) (zPart (zOp zAdd (zC (.int 1)) (zCall S__law_take (zCons (zVar 0) (zCons (zC (.int 3)) zNil)))))) zNil)) zNil)))))))))))
theorem ok__law_tree {k : Nat} {S__law_take : Zp} {S__law_leaf : Zp} {S__law_unlike : Zp} {S__law_tree : Zp} (fx : Fx w K mg) (d : Def K mg "_law_tree" s__law_tree ["_law_state_here", "_law_known", "_law_room"]) (c__law_take : Cal P w K mg base k "_law_take" ["_law_state_here", "_law_limit"] S__law_take) (c__law_leaf : Cal P w K mg base k "_law_leaf" ["_law_state_here", "_law_known"] S__law_leaf) (c__law_unlike : Cal P w K mg base k "_law_unlike" ["_law_state_here", "_law_count"] S__law_unlike) (c__law_tree : Cal P w K mg base k "_law_tree" ["_law_state_here", "_law_known", "_law_room"] S__law_tree) : Cal P w K mg base (k + 1) "_law_tree" ["_law_state_here", "_law_known", "_law_room"] (zBody 9 (z__law_tree S__law_take S__law_leaf S__law_unlike S__law_tree)) :=
  Cal.mk (N := ["_law_state_here", "_law_known", "_law_room", "_law_pick", "_law_numbers", "_law_pairs", "_law_parts", "_law_number_here", "_law_k"]) d sc__law_tree fun f cdv A outer s H E cx => ⟨_, by exact (zscons (zset 3 cx.nd (zcal cx c__law_take (zcons (zv 0) (zcons zint znil)))) (zscons (zif (ztw (zor (ztcmp op_lt lf_cmpI (zv 2) zint) (zor1 (ztcmp op_lt lf_cmpI (zv 3) zint)))) (zsone (zret (zcal cx c__law_leaf (zcons (zv 0) (zcons (zv 1) znil))))) zsnil) (zscons (zif (ztcmp (op_eqAll cx.hu64) lf_eq (zv 3) zint) (zscons (zset 4 cx.nd (zcal cx c__law_unlike (zcons (zv 0) (zcons (zcal cx c__law_take (zcons (zv 0) (zcons zint znil))) znil)))) (zsone (zret (ztup (zcons zstr (zcons (zv 4) (zcons (zcal cx c__law_tree (zcons (zv 0) (zcons (zop op_addAll lf_add (zv 1) (zcallT call_list_of lf_toList fx.b_list (zcons (zv 4) znil))) (zcons (zop op_sub lf_sub (zv 2) zint) znil)))) znil))))))) zsnil) (zscons (zif (ztcmp (op_eqAll cx.hu64) lf_eq (zv 3) zint) (zscons (zset 4 cx.nd (zcal cx c__law_unlike (zcons (zv 0) (zcons (zcal cx c__law_take (zcons (zv 0) (zcons zint znil))) znil)))) (zscons (zset 5 cx.nd (zcallT call_tuple_of lf_toTup fx.b_tuple (zcons (zlc cx (ziseq (zv 4)) (own := [("_law_number_here", 7)]) (blkOk_by rfl) (fun _ _ _ _ _ => (zgn 7 (by exact cx.nd))) (fun _ _ _ _ _ => gown_name) (fun _ _ _ _ _ cx => zptsnil) (fun _ _ _ _ _ cx => (ztup (zcons (zv 7) (zcons (zcal cx c__law_tree (zcons (zv 0) (zcons (zv 1) (zcons (zop op_sub lf_sub (zv 2) zint) znil)))) znil))))) znil))) (zsone (zret (ztup (zcons zstr (zcons (zv 5) (zcons (zcal cx c__law_tree (zcons (zv 0) (zcons (zop op_addAll lf_add (zv 1) (zcallT call_list_of lf_toList fx.b_list (zcons (zv 4) znil))) (zcons (zop op_sub lf_sub (zv 2) zint) znil)))) znil)))))))) zsnil) (zscons (zsetLc 6 cx (zirng1 fx.b_range (zcons zint znil)) (own := [("_law_k", 8)]) (blkOk_by rfl) (fun _ _ _ _ _ => (zgn 8 (by exact cx.nd))) (fun _ _ _ _ _ => gown_name) (fun _ _ _ _ _ cx => zptsnil) (fun _ _ _ _ _ cx => (zcal cx c__law_tree (zcons (zv 0) (zcons (zv 1) (zcons (zop op_sub lf_sub (zv 2) zint) znil))))) (sw_true rfl rfl rfl (by decide +kernel))) (zscons (zif (ztcmp (op_eqAll cx.hu64) lf_eq (zv 3) zint) (zsone (zret (ztup (zcons zstr (zcons (zix (ix_all cx.hu) lf_ix (zv 6) zint) (zcons (zix (ix_all cx.hu) lf_ix (zv 6) zint) (zcons (zix (ix_all cx.hu) lf_ix (zv 6) zint) znil))))))) zsnil) (zsone (zret (ztup (zcons zstr (zcons (zix (ix_all cx.hu) lf_ix (zv 6) zint) (zcons (zcallT call_tuple_of lf_toTup fx.b_tuple (zcons (zslice (zv 6) (zpart zint) (zpart (zop op_addAll lf_add zint (zcal cx c__law_take (zcons (zv 0) (zcons zint znil)))))) znil)) znil))))))))))))⟩
/-! ### _law_wrapped -/
abbrev s__law_wrapped : Stmt := top 16
theorem sc__law_wrapped : FnScope ["_law_state_here", "_law_core", "_law_many", "_law_k", "_law_pick", "_law_leaf_here"] ["_law_state_here", "_law_core", "_law_many"] (defScope s__law_wrapped) := ⟨rfl, rfl, rfl, by decide +kernel, rfl, by decide +kernel, by decide +kernel⟩
def z__law_wrapped (S__law_take : Zp) : ZS :=
  (zSeq (zFor (ziRng1 (zCons (zVar 2) zNil)) (zgName 3) (zSeq (zAsg (zCall S__law_take (zCons (zVar 0) (zCons (zC (.int 6)) zNil))) (zgName 4)) (zSeq (zAsg (zTup (zCons (zC (.str "int")) (zCons (zVar 3) zNil))) (zgName 5)) (zIfS (zTst (zOp zEq (zVar 4) (zC (.int 0)))) (zAsg (zTup (zCons (zC (.str "fn")) (zCons (zTup (zCons (zC (.int 7)) zNil)) (zCons (zVar 1) zNil)))) (zgName 1)) (zIfS (zTst (zOp zEq (zVar 4) (zC (.int 1)))) (zAsg (zTup (zCons (zC (.str "let")) (zCons (zTup (zCons (zTup (zCons (zC (.int 8)) (zCons (zVar 1) zNil))) (zCons (zTup (zCons (zC (.int 9)) (zCons (zVar 5) zNil))) zNil))) (zCons (zVar 5) zNil)))) (zgName 1)) (zIfS (zTst (zOp zEq (zVar 4) (zC (.int 2)))) (zAsg (zTup (zCons (zC (.str "let")) (zCons (zTup (zCons (zTup (zCons (zC (.int 8)) (zCons (zVar 5) zNil))) zNil)) (zCons (zVar 1) zNil)))) (zgName 1)) (zIfS (zTst (zOp zEq (zVar 4) (zC (.int 3)))) (zAsg (zOp zIx (zLst (zCons (zTup (zCons (zC (.str "if")) (zCons (zVar 1) (zCons (zVar 5) (zCons (zVar 5) zNil))))) (zCons (zTup (zCons (zC (.str "if")) (zCons (zVar 5) (zCons (zVar 1) (zCons (zVar 5) zNil))))) (zCons (zTup (zCons (zC (.str "if")) (zCons (zVar 5) (zCons (zVar 5) (zCons (zVar 1) zNil))))) zNil)))) (zCall S__law_take (zCons (zVar 0) (zCons (zC (.int 3)) zNil)))) (zgName 1)) (zIfS (zTst (zOp zEq (zVar 4) (zC (.int 4)))) (zAsg (zTup (zCons (zC (.str "call")) (zCons (zVar 1) (zCons (zTup (zCons (zVar 5) zNil)) zNil)))) (zgName 1)) (zAsg (zTup (zCons (zC (.str "call")) (zCons (zVar 5) (zCons (zTup (zCons (zVar 5) (zCons (zVar 1) zNil))) zNil)))) (zgName 1)))))))))) (zRet (zVar 1)))
theorem ok__law_wrapped {k : Nat} {S__law_take : Zp} (fx : Fx w K mg) (d : Def K mg "_law_wrapped" s__law_wrapped ["_law_state_here", "_law_core", "_law_many"]) (c__law_take : Cal P w K mg base k "_law_take" ["_law_state_here", "_law_limit"] S__law_take) : Cal P w K mg base (k + 1) "_law_wrapped" ["_law_state_here", "_law_core", "_law_many"] (zBody 6 (z__law_wrapped S__law_take)) :=
  Cal.mk (N := ["_law_state_here", "_law_core", "_law_many", "_law_k", "_law_pick", "_law_leaf_here"]) d sc__law_wrapped fun f cdv A outer s H E cx => ⟨_, by exact (zscons (zfor cx (zirng1 fx.b_range (zcons (zv 2) znil)) (zgn 3 cx.nd) (zscons (zset 4 cx.nd (zcal cx c__law_take (zcons (zv 0) (zcons zint znil)))) (zscons (zset 5 cx.nd (ztup (zcons zstr (zcons (zv 3) znil)))) (zsone (zif (ztcmp (op_eqAll cx.hu64) lf_eq (zv 4) zint) (zsone (zset 1 cx.nd (ztup (zcons zstr (zcons (ztup (zcons zint znil)) (zcons (zv 1) znil)))))) (zsone (zif (ztcmp (op_eqAll cx.hu64) lf_eq (zv 4) zint) (zsone (zset 1 cx.nd (ztup (zcons zstr (zcons (ztup (zcons (ztup (zcons zint (zcons (zv 1) znil))) (zcons (ztup (zcons zint (zcons (zv 5) znil))) znil))) (zcons (zv 5) znil)))))) (zsone (zif (ztcmp (op_eqAll cx.hu64) lf_eq (zv 4) zint) (zsone (zset 1 cx.nd (ztup (zcons zstr (zcons (ztup (zcons (ztup (zcons zint (zcons (zv 5) znil))) znil)) (zcons (zv 1) znil)))))) (zsone (zif (ztcmp (op_eqAll cx.hu64) lf_eq (zv 4) zint) (zsone (zset 1 cx.nd (zix (ix_all cx.hu) lf_ix (zlst (zcons (ztup (zcons zstr (zcons (zv 1) (zcons (zv 5) (zcons (zv 5) znil))))) (zcons (ztup (zcons zstr (zcons (zv 5) (zcons (zv 1) (zcons (zv 5) znil))))) (zcons (ztup (zcons zstr (zcons (zv 5) (zcons (zv 5) (zcons (zv 1) znil))))) znil)))) (zcal cx c__law_take (zcons (zv 0) (zcons zint znil)))))) (zsone (zif (ztcmp (op_eqAll cx.hu64) lf_eq (zv 4) zint) (zsone (zset 1 cx.nd (ztup (zcons zstr (zcons (zv 1) (zcons (ztup (zcons (zv 5) znil)) znil)))))) (zsone (zset 1 cx.nd (ztup (zcons zstr (zcons (zv 5) (zcons (ztup (zcons (zv 5) (zcons (zv 1) znil))) znil))))))))))))))))))) (zsone (zret (zv 1))))⟩
/-! ### _law_integer -/
abbrev s__law_integer : Stmt := top 17
theorem sc__law_integer : FnScope ["_law_state_here", "_law_number_here"] ["_law_state_here"] (defScope s__law_integer) := ⟨rfl, rfl, rfl, by decide +kernel, rfl, by decide +kernel, by decide +kernel⟩
def z__law_integer (S__law_take : Zp) : ZS :=
  (zSeq (zAsg (zOp zIx (zLst (zCons (zCall S__law_take (zCons (zVar 0) (zCons (zC (.int 3)) zNil))) (zCons (zCall S__law_take (zCons (zVar 0) (zCons (zC (.int 1000)) zNil))) (zCons (zCall S__law_take (zCons (zVar 0) (zCons (zOp zPow (zC (.int 10)) (zC (.int 40))) zNil))) zNil)))) (zCall S__law_take (zCons (zVar 0) (zCons (zC (.int 3)) zNil)))) (zgName 1)) (zSeq (zIfS (zTst (zOp zEq (zCall S__law_take (zCons (zVar 0) (zCons (zC (.int 6)) zNil))) (zC (.int 0)))) (zAsg (zOp zSub (zOp zSub (zOp zPow (zC (.int 10)) (zC (.int 40))) (zC (.int 1))) (zCall S__law_take (zCons (zVar 0) (zCons (zC (.int 3)) zNil)))) (zgName 1)) zNext) (zRet (zOp zIx (zLst (zCons (zVar 1) (zCons (zOp zSub (zC (.int 0)) (zVar 1)) zNil))) (zCall S__law_take (zCons (zVar 0) (zCons (zC (.int 2)) zNil)))))))
theorem ok__law_integer {k : Nat} {S__law_take : Zp} (fx : Fx w K mg) (d : Def K mg "_law_integer" s__law_integer ["_law_state_here"]) (c__law_take : Cal P w K mg base k "_law_take" ["_law_state_here", "_law_limit"] S__law_take) : Cal P w K mg base (k + 1) "_law_integer" ["_law_state_here"] (zBody 2 (z__law_integer S__law_take)) :=
  Cal.mk (N := ["_law_state_here", "_law_number_here"]) d sc__law_integer fun f cdv A outer s H E cx => ⟨_, by exact (zscons (zset 1 cx.nd (zix (ix_all cx.hu) lf_ix (zlst (zcons (zcal cx c__law_take (zcons (zv 0) (zcons zint znil))) (zcons (zcal cx c__law_take (zcons (zv 0) (zcons zint znil))) (zcons (zcal cx c__law_take (zcons (zv 0) (zcons (zop op_pow lf_I2 zint zint) znil))) znil)))) (zcal cx c__law_take (zcons (zv 0) (zcons zint znil))))) (zscons (zif (ztcmp (op_eqAll cx.hu64) lf_eq (zcal cx c__law_take (zcons (zv 0) (zcons zint znil))) zint) (zsone (zset 1 cx.nd (zop op_sub lf_sub (zop op_sub lf_sub (zop op_pow lf_I2 zint zint) zint) (zcal cx c__law_take (zcons (zv 0) (zcons zint znil)))))) zsnil) (zsone (zret (zix (ix_all cx.hu) lf_ix (zlst (zcons (zv 1) (zcons (zop op_sub lf_sub zint (zv 1)) znil))) (zcal cx c__law_take (zcons (zv 0) (zcons zint znil))))))))⟩
/-! ### _law_depth -/
abbrev s__law_depth : Stmt := top 18
theorem sc__law_depth : FnScope ["_law_core", "_law_kind", "_law_parts", "_law_pair", "_law_part"] ["_law_core"] (defScope s__law_depth) := ⟨rfl, rfl, rfl, by decide +kernel, rfl, by decide +kernel, by decide +kernel⟩
def z__law_depth (S__law_depth : Zp) : ZS :=
  (zSeq (zAsg (zOp zIx (zVar 0) (zC (.int 0))) (zgName 1)) (zSeq (zAsg (zTup zNil) (zgName 2)) (zSeq (zIfS (zTst (zOp zEq (zVar 1) (zC (.str "fn")))) (zAsg (zTup (zCons (zOp zIx (zVar 0) (zC (.int 2))) zNil)) (zgName 2)) (zIfS (zTst (zOp zEq (zVar 1) (zC (.str "let")))) (zAsg (zOp zAdd (zCB zToTup (zCons (zLc (ziSeq (zOp zIx (zVar 0) (zC (.int 1)))) (zgName 3) zYes (zOp zIx (zVar 3) (zC (.int 1))) [3]) zNil)) (zTup (zCons (zOp zIx (zVar 0) (zC (.int 2))) zNil))) (zgName 2)) (zIfS (zTst (zOp zEq (zVar 1) (zC (.str "if")))) (zAsg (zSlice (zVar 0) (zPart (zC (.int 1))) zNoP) (zgName 2)) (zIfS (zTst (zOp zEq (zVar 1) (zC (.str "call")))) (zAsg (zOp zAdd (zTup (zCons (zOp zIx (zVar 0) (zC (.int 1))) zNil)) (zOp zIx (zVar 0) (zC (.int 2)))) (zgName 2)) zNext)))) (zRet (zOp zAdd (zC (.int 1)) (zCB zMax (zCons (zOp zAdd (zLst (zCons (zC (.int 0)) zNil)) (zLc (ziSeq (zVar 2)) (zgName 4) zYes (zCall S__law_depth (zCons (zVar 4) zNil)) [4])) zNil)))))))
theorem ok__law_depth {k : Nat} {S__law_depth : Zp} (fx : Fx w K mg) (d : Def K mg "_law_depth" s__law_depth ["_law_core"]) (c__law_depth : Cal P w K mg base k "_law_depth" ["_law_core"] S__law_depth) : Cal P w K mg base (k + 1) "_law_depth" ["_law_core"] (zBody 5 (z__law_depth S__law_depth)) :=
  Cal.mk (N := ["_law_core", "_law_kind", "_law_parts", "_law_pair", "_law_part"]) d sc__law_depth fun f cdv A outer s H E cx => ⟨_, by exact (zscons (zset 1 cx.nd (zix (ix_all cx.hu) lf_ix (zv 0) zint)) (zscons (zset 2 cx.nd (ztup znil)) (zscons (zif (ztcmp (op_eqAll cx.hu64) lf_eq (zv 1) zstr) (zsone (zset 2 cx.nd (ztup (zcons (zix (ix_all cx.hu) lf_ix (zv 0) zint) znil)))) (zsone (zif (ztcmp (op_eqAll cx.hu64) lf_eq (zv 1) zstr) (zsone (zset 2 cx.nd (zop op_addAll lf_add (zcallT call_tuple_of lf_toTup fx.b_tuple (zcons (zlc cx (ziseq (zix (ix_all cx.hu) lf_ix (zv 0) zint)) (own := [("_law_pair", 3)]) (blkOk_by rfl) (fun _ _ _ _ _ => (zgn 3 (by exact cx.nd))) (fun _ _ _ _ _ => gown_name) (fun _ _ _ _ _ cx => zptsnil) (fun _ _ _ _ _ cx => (zix (ix_all cx.hu) lf_ix (zv 3) zint))) znil)) (ztup (zcons (zix (ix_all cx.hu) lf_ix (zv 0) zint) znil))))) (zsone (zif (ztcmp (op_eqAll cx.hu64) lf_eq (zv 1) zstr) (zsone (zset 2 cx.nd (zslice (zv 0) (zpart zint) znop))) (zsone (zif (ztcmp (op_eqAll cx.hu64) lf_eq (zv 1) zstr) (zsone (zset 2 cx.nd (zop op_addAll lf_add (ztup (zcons (zix (ix_all cx.hu) lf_ix (zv 0) zint) znil)) (zix (ix_all cx.hu) lf_ix (zv 0) zint)))) zsnil))))))) (zsone (zret (zop op_addAll lf_add zint (zcallB (call_maxAll cx.calm) lf_max fx.b_max (zcons (zop op_addAll lf_add (zlst (zcons zint znil)) (zlc cx (ziseq (zv 2)) (own := [("_law_part", 4)]) (blkOk_by rfl) (fun _ _ _ _ _ => (zgn 4 (by exact cx.nd))) (fun _ _ _ _ _ => gown_name) (fun _ _ _ _ _ cx => zptsnil) (fun _ _ _ _ _ cx => (zcal cx c__law_depth (zcons (zv 4) znil))))) znil))))))))⟩
/-! ### _law_fault -/
abbrev s__law_fault : Stmt := top 19
theorem sc__law_fault : FnScope ["_law_state_here", "_law_known", "_law_pick", "_law_twice", "_law_leaf_here", "_law_number_here", "_law_k"] ["_law_state_here", "_law_known"] (defScope s__law_fault) := ⟨rfl, rfl, rfl, by decide +kernel, rfl, by decide +kernel, by decide +kernel⟩
def z__law_fault (S__law_take : Zp) (S__law_number : Zp) : ZS :=
  (zSeq (zAsg (zCall S__law_take (zCons (zVar 0) (zCons (zC (.int 6)) zNil))) (zgName 2)) (zSeq (zAsg (zCall S__law_number (zCons (zVar 0) zNil)) (zgName 3)) (zSeq (zAsg (zTup (zCons (zC (.str "int")) (zCons (zC (.int 1)) zNil))) (zgName 4)) (zSeq (zIfS (zTst (zOp zLt (zVar 2) (zC (.int 2)))) (zSeq (zAsg (zC (.int 20)) (zgName 5)) (zSeq (zFor (ziRng1 (zCons (zOp zAdd (zCB zLen (zCons (zVar 1) zNil)) (zC (.int 1))) zNil)) (zgName 6) (zIfS (zTst (zOp zIn (zVar 5) (zVar 1))) (zAsg (zOp zAdd (zVar 5) (zC (.int 1))) (zgName 5)) zNext)) (zRet (zOp zIx (zLst (zCons (zTup (zCons (zC (.str "local")) (zCons (zVar 5) zNil))) (zCons (zTup (zCons (zC (.str "let")) (zCons (zTup (zCons (zTup (zCons (zVar 5) (zCons (zTup (zCons (zC (.str "local")) (zCons (zVar 5) zNil))) zNil))) zNil)) (zCons (zVar 4) zNil)))) zNil))) (zVar 2))))) zNext) (zSeq (zIfS (zTst (zOp zEq (zVar 2) (zC (.int 2)))) (zRet (zTup (zCons (zC (.str "prim")) (zCons (zOp zIx (zLst (zCons (zC (.str "third")) (zCons (zC (.str "/")) (zCons (zC (.str "pai")) (zCons (zC (.str "")) (zCons (zC (.str "Pair")) zNil)))))) (zCall S__law_take (zCons (zVar 0) (zCons (zC (.int 5)) zNil)))) zNil)))) zNext) (zSeq (zIfS (zTst (zOp zEq (zVar 2) (zC (.int 3)))) (zRet (zTup (zCons (zC (.str "int")) (zCons (zOp zIx (zLst (zCons (zOp zPow (zC (.int 10)) (zC (.int 40))) (zCons (zOp zSub (zC (.int 0)) (zOp zPow (zC (.int 10)) (zC (.int 40)))) (zCons (zOp zAdd (zOp zPow (zC (.int 10)) (zC (.int 40))) (zCall S__law_take (zCons (zVar 0) (zCons (zOp zPow (zC (.int 10)) (zC (.int 50))) zNil)))) zNil)))) (zCall S__law_take (zCons (zVar 0) (zCons (zC (.int 3)) zNil)))) zNil)))) zNext) (zSeq (zIfS (zTst (zOp zEq (zVar 2) (zC (.int 4)))) (zRet (zTup (zCons (zC (.str "fn")) (zCons (zTup (zCons (zVar 3) (zCons (zC (.int 11)) (zCons (zVar 3) zNil)))) (zCons (zVar 4) zNil))))) zNext) (zRet (zTup (zCons (zC (.str "let")) (zCons (zTup (zCons (zTup (zCons (zVar 3) (zCons (zVar 4) zNil))) (zCons (zTup (zCons (zC (.int 12)) (zCons (zVar 4) zNil))) (zCons (zTup (zCons (zVar 3) (zCons (zVar 4) zNil))) zNil)))) (zCons (zVar 4) zNil))))))))))))
theorem ok__law_fault {k : Nat} {S__law_take : Zp} {S__law_number : Zp} (fx : Fx w K mg) (d : Def K mg "_law_fault" s__law_fault ["_law_state_here", "_law_known"]) (c__law_take : Cal P w K mg base k "_law_take" ["_law_state_here", "_law_limit"] S__law_take) (c__law_number : Cal P w K mg base k "_law_number" ["_law_state_here"] S__law_number) : Cal P w K mg base (k + 1) "_law_fault" ["_law_state_here", "_law_known"] (zBody 7 (z__law_fault S__law_take S__law_number)) :=
  Cal.mk (N := ["_law_state_here", "_law_known", "_law_pick", "_law_twice", "_law_leaf_here", "_law_number_here", "_law_k"]) d sc__law_fault fun f cdv A outer s H E cx => ⟨_, by exact (zscons (zset 2 cx.nd (zcal cx c__law_take (zcons (zv 0) (zcons zint znil)))) (zscons (zset 3 cx.nd (zcal cx c__law_number (zcons (zv 0) znil))) (zscons (zset 4 cx.nd (ztup (zcons zstr (zcons zint znil)))) (zscons (zif (ztcmp op_lt lf_cmpI (zv 2) zint) (zscons (zset 5 cx.nd zint) (zscons (zfor cx (zirng1 fx.b_range (zcons (zop op_addAll lf_add (zcallB call_lenAll lf_len fx.b_len (zcons (zv 1) znil)) zint) znil)) (zgn 6 cx.nd) (zsone (zif (ztcmp (op_inAll cx.hu) lf_in (zv 5) (zv 1)) (zsone (zset 5 cx.nd (zop op_addAll lf_add (zv 5) zint))) zsnil))) (zsone (zret (zix (ix_all cx.hu) lf_ix (zlst (zcons (ztup (zcons zstr (zcons (zv 5) znil))) (zcons (ztup (zcons zstr (zcons (ztup (zcons (ztup (zcons (zv 5) (zcons (ztup (zcons zstr (zcons (zv 5) znil))) znil))) znil)) (zcons (zv 4) znil)))) znil))) (zv 2)))))) zsnil) (zscons (zif (ztcmp (op_eqAll cx.hu64) lf_eq (zv 2) zint) (zsone (zret (ztup (zcons zstr (zcons (zix (ix_all cx.hu) lf_ix (zlst (zcons zstr (zcons zstr (zcons zstr (zcons zstr (zcons zstr znil)))))) (zcal cx c__law_take (zcons (zv 0) (zcons zint znil)))) znil))))) zsnil) (zscons (zif (ztcmp (op_eqAll cx.hu64) lf_eq (zv 2) zint) (zsone (zret (ztup (zcons zstr (zcons (zix (ix_all cx.hu) lf_ix (zlst (zcons (zop op_pow lf_I2 zint zint) (zcons (zop op_sub lf_sub zint (zop op_pow lf_I2 zint zint)) (zcons (zop op_addAll lf_add (zop op_pow lf_I2 zint zint) (zcal cx c__law_take (zcons (zv 0) (zcons (zop op_pow lf_I2 zint zint) znil)))) znil)))) (zcal cx c__law_take (zcons (zv 0) (zcons zint znil)))) znil))))) zsnil) (zscons (zif (ztcmp (op_eqAll cx.hu64) lf_eq (zv 2) zint) (zsone (zret (ztup (zcons zstr (zcons (ztup (zcons (zv 3) (zcons zint (zcons (zv 3) znil)))) (zcons (zv 4) znil)))))) zsnil) (zsone (zret (ztup (zcons zstr (zcons (ztup (zcons (ztup (zcons (zv 3) (zcons (zv 4) znil))) (zcons (ztup (zcons zint (zcons (zv 4) znil))) (zcons (ztup (zcons (zv 3) (zcons (zv 4) znil))) znil)))) (zcons (zv 4) znil)))))))))))))⟩
/-! ### _law_bound -/
abbrev s__law_bound : Stmt := top 20
theorem sc__law_bound : FnScope ["_law_core", "_law_known", "_law_kind", "_law_pair", "_law_parts", "_law_part"] ["_law_core", "_law_known"] (defScope s__law_bound) := ⟨rfl, rfl, rfl, by decide +kernel, rfl, by decide +kernel, by decide +kernel⟩
def z__law_bound (S__law_bound : Zp) : ZS :=
  (zSeq (zAsg (zOp zIx (zVar 0) (zC (.int 0))) (zgName 2)) (zSeq (zIfS (zTst (zOp zEq (zVar 2) (zC (.str "local")))) (zRet (zOp zIn (zOp zIx (zVar 0) (zC (.int 1))) (zVar 1))) zNext) (zSeq (zIfS (zTst (zOp zEq (zVar 2) (zC (.str "fn")))) (zRet (zCall S__law_bound (zCons (zOp zIx (zVar 0) (zC (.int 2))) (zCons (zOp zAdd (zVar 1) (zCB zToList (zCons (zOp zIx (zVar 0) (zC (.int 1))) zNil))) zNil)))) zNext) (zSeq (zIfS (zTst (zOp zEq (zVar 2) (zC (.str "let")))) (zSeq (zFor (ziSeq (zOp zIx (zVar 0) (zC (.int 1)))) (zgName 3) (zIfS (zNot (zTru (zCall S__law_bound (zCons (zOp zIx (zVar 3) (zC (.int 1))) (zCons (zVar 1) zNil))))) (zRet (zC (.bl false))) zNext)) (zRet (zCall S__law_bound (zCons (zOp zIx (zVar 0) (zC (.int 2))) (zCons (zOp zAdd (zVar 1) (zLc (ziSeq (zOp zIx (zVar 0) (zC (.int 1)))) (zgName 3) zYes (zOp zIx (zVar 3) (zC (.int 0))) [3])) zNil))))) zNext) (zSeq (zAsg (zTup zNil) (zgName 4)) (zSeq (zIfS (zTst (zOp zEq (zVar 2) (zC (.str "if")))) (zAsg (zSlice (zVar 0) (zPart (zC (.int 1))) zNoP) (zgName 4)) zNext) (zSeq (zIfS (zTst (zOp zEq (zVar 2) (zC (.str "call")))) (zAsg (zOp zAdd (zTup (zCons (zOp zIx (zVar 0) (zC (.int 1))) zNil)) (zOp zIx (zVar 0) (zC (.int 2)))) (zgName 4)) zNext) (zRet (zOp zEq (zCB zLen (zCons (zLc (ziSeq (zVar 4)) (zgName 5) (zNot (zTru (zCall S__law_bound (zCons (zVar 5) (zCons (zVar 1) zNil))))) (zVar 5) [5]) zNil)) (zC (.int 0)))))))))))
theorem ok__law_bound {k : Nat} {S__law_bound : Zp} (fx : Fx w K mg) (d : Def K mg "_law_bound" s__law_bound ["_law_core", "_law_known"]) (c__law_bound : Cal P w K mg base k "_law_bound" ["_law_core", "_law_known"] S__law_bound) : Cal P w K mg base (k + 1) "_law_bound" ["_law_core", "_law_known"] (zBody 6 (z__law_bound S__law_bound)) :=
  Cal.mk (N := ["_law_core", "_law_known", "_law_kind", "_law_pair", "_law_parts", "_law_part"]) d sc__law_bound fun f cdv A outer s H E cx => ⟨_, by exact (zscons (zset 2 cx.nd (zix (ix_all cx.hu) lf_ix (zv 0) zint)) (zscons (zif (ztcmp (op_eqAll cx.hu64) lf_eq (zv 2) zstr) (zsone (zret (zcmp (op_inAll cx.hu) lf_in (zix (ix_all cx.hu) lf_ix (zv 0) zint) (zv 1)))) zsnil) (zscons (zif (ztcmp (op_eqAll cx.hu64) lf_eq (zv 2) zstr) (zsone (zret (zcal cx c__law_bound (zcons (zix (ix_all cx.hu) lf_ix (zv 0) zint) (zcons (zop op_addAll lf_add (zv 1) (zcallT call_list_of lf_toList fx.b_list (zcons (zix (ix_all cx.hu) lf_ix (zv 0) zint) znil))) znil))))) zsnil) (zscons (zif (ztcmp (op_eqAll cx.hu64) lf_eq (zv 2) zstr) (zscons (zfor cx (ziseq (zix (ix_all cx.hu) lf_ix (zv 0) zint)) (zgn 3 cx.nd) (zsone (zif (znot (ztru (zcal cx c__law_bound (zcons (zix (ix_all cx.hu) lf_ix (zv 3) zint) (zcons (zv 1) znil))))) (zsone (zret zbl)) zsnil))) (zsone (zret (zcal cx c__law_bound (zcons (zix (ix_all cx.hu) lf_ix (zv 0) zint) (zcons (zop op_addAll lf_add (zv 1) (zlc cx (ziseq (zix (ix_all cx.hu) lf_ix (zv 0) zint)) (own := [("_law_pair", 3)]) (blkOk_by rfl) (fun _ _ _ _ _ => (zgn 3 (by exact cx.nd))) (fun _ _ _ _ _ => gown_name) (fun _ _ _ _ _ cx => zptsnil) (fun _ _ _ _ _ cx => (zix (ix_all cx.hu) lf_ix (zv 3) zint)))) znil)))))) zsnil) (zscons (zset 4 cx.nd (ztup znil)) (zscons (zif (ztcmp (op_eqAll cx.hu64) lf_eq (zv 2) zstr) (zsone (zset 4 cx.nd (zslice (zv 0) (zpart zint) znop))) zsnil) (zscons (zif (ztcmp (op_eqAll cx.hu64) lf_eq (zv 2) zstr) (zsone (zset 4 cx.nd (zop op_addAll lf_add (ztup (zcons (zix (ix_all cx.hu) lf_ix (zv 0) zint) znil)) (zix (ix_all cx.hu) lf_ix (zv 0) zint)))) zsnil) (zsone (zret (zcmp (op_eqAll cx.hu64) lf_eq (zcallB call_lenAll lf_len fx.b_len (zcons (zlc cx (ziseq (zv 4)) (own := [("_law_part", 5)]) (blkOk_by rfl) (fun _ _ _ _ _ => (zgn 5 (by exact cx.nd))) (fun _ _ _ _ _ => gown_name) (fun _ _ _ _ _ cx => (zptsone (znot (ztru (zcal cx c__law_bound (zcons (zv 5) (zcons (zv 1) znil))))))) (fun _ _ _ _ _ cx => (zv 5))) znil)) zint))))))))))⟩
/-! ### law -/
abbrev s_law : Stmt := top 21
theorem sc_law : FnScope ["_law_script", "_law_state_here", "_law_known", "_law_core", "_law_faulty", "_law_inner", "_law_many", "_law_due", "_law_passed", "_law_told"] ["_law_script"] (defScope s_law) := ⟨rfl, rfl, rfl, by decide +kernel, rfl, by decide +kernel, by decide +kernel⟩
def z_law (S__law_state : Zp) (S__law_unlike : Zp) (S__law_take : Zp) (S__law_tree : Zp) (S__law_fault : Zp) (S__law_wrapped : Zp) (S__law_depth : Zp) (S__law_bound : Zp) (S_well_formed : Zp) : ZS :=
  (zSeq (zAsg (zCall S__law_state (zCons (zVar 0) zNil)) (zgName 1)) (zSeq (zAsg (zCB zToList (zCons (zCall S__law_unlike (zCons (zVar 1) (zCons (zCall S__law_take (zCons (zVar 1) (zCons (zC (.int 4)) zNil))) zNil))) zNil)) (zgName 2)) (zSeq (zAsg (zCall S__law_tree (zCons (zVar 1) (zCons (zVar 2) (zCons (zC (.int 5)) zNil)))) (zgName 3)) (zSeq (zAsg (zOp zGt (zCall S__law_take (zCons (zVar 1) (zCons (zC (.int 3)) zNil))) (zC (.int 0))) (zgName 4)) (zSeq (zIfS (zTru (zVar 4)) (zSeq (zAsg (zCall S__law_fault (zCons (zVar 1) (zCons (zVar 2) zNil))) (zgName 5)) (zAsg (zOp zIx (zLst (zCons (zTup (zCons (zC (.str "call")) (zCons (zVar 5) (zCons (zTup (zCons (zVar 3) zNil)) zNil)))) (zCons (zTup (zCons (zC (.str "if")) (zCons (zVar 3) (zCons (zVar 5) (zCons (zVar 3) zNil))))) (zCons (zTup (zCons (zC (.str "let")) (zCons (zTup (zCons (zTup (zCons (zC (.int 14)) (zCons (zVar 3) zNil))) zNil)) (zCons (zVar 5) zNil)))) zNil)))) (zCall S__law_take (zCons (zVar 1) (zCons (zC (.int 3)) zNil)))) (zgName 3))) zNext) (zSeq (zAsg (zOp zIx (zLst (zCons (zCall S__law_take (zCons (zVar 1) (zCons (zC (.int 6)) zNil))) (zCons (zOp zAdd (zC (.int 92)) (zCall S__law_take (zCons (zVar 1) (zCons (zC (.int 12)) zNil)))) zNil))) (zCall S__law_take (zCons (zVar 1) (zCons (zC (.int 2)) zNil)))) (zgName 6)) (zSeq (zAsg (zCall S__law_wrapped (zCons (zVar 1) (zCons (zVar 3) (zCons (zVar 6) zNil)))) (zgName 3)) (zSeq (zAsg (zAndV (zOp zLe (zCall S__law_depth (zCons (zVar 3) zNil)) (zC (.int 100))) (zAndV (zNotV (zVar 4)) (zCall S__law_bound (zCons (zVar 3) (zCons (zVar 2) zNil))))) (zgName 7)) (zSeq (zAsg (zCB zToList (zCons (zVar 2) zNil)) (zgName 8)) (zSeq (zAsg (zCall S_well_formed (zCons (zVar 3) (zCons (zVar 8) zNil))) (zgName 9)) (zSeq (zIfS (zOr (zNot (zTru (zUn (zIsi own_ [.bool]) (zVar 9)))) (zOr (zTst (zOp zNe (zVar 9) (zVar 7))) (zTst (zOp zNe (zVar 8) (zVar 2))))) (zRet (zC (.bl false))) zNext) (zRet (zOp zEq (zCall S_well_formed (zCons (zVar 3) (zCons (zCB zToTup (zCons (zVar 2) zNil)) zNil))) (zVar 9))))))))))))))
theorem body_law {k : Nat} {S__law_state : Zp} {S__law_unlike : Zp} {S__law_take : Zp} {S__law_tree : Zp} {S__law_fault : Zp} {S__law_wrapped : Zp} {S__law_depth : Zp} {S__law_bound : Zp} {S_well_formed : Zp} (fx : Fx w K mg) (c__law_state : Cal P w K mg base k "_law_state" ["_law_script"] S__law_state) (c__law_unlike : Cal P w K mg base k "_law_unlike" ["_law_state_here", "_law_count"] S__law_unlike) (c__law_take : Cal P w K mg base k "_law_take" ["_law_state_here", "_law_limit"] S__law_take) (c__law_tree : Cal P w K mg base k "_law_tree" ["_law_state_here", "_law_known", "_law_room"] S__law_tree) (c__law_fault : Cal P w K mg base k "_law_fault" ["_law_state_here", "_law_known"] S__law_fault) (c__law_wrapped : Cal P w K mg base k "_law_wrapped" ["_law_state_here", "_law_core", "_law_many"] S__law_wrapped) (c__law_depth : Cal P w K mg base k "_law_depth" ["_law_core"] S__law_depth) (c__law_bound : Cal P w K mg base k "_law_bound" ["_law_core", "_law_known"] S__law_bound) (c_well_formed : Cal P w K mg base k "well_formed" ["core", "known"] S_well_formed) (f : Addr) (cdv : Value) (A : Around) (outer : List Env) (s : Shared) (H : Hp) (E : XK) (cx : ZC (cxOf (L2.CX P w) P w K mg base ["_law_script", "_law_state_here", "_law_known", "_law_core", "_law_faulty", "_law_inner", "_law_many", "_law_due", "_law_passed", "_law_told"] "law" (defScope s_law) f cdv A outer s H E) (fun cls d _ H => E cls d H) k) : ∃ t, ZSs (cxOf (L2.CX P w) P w K mg base ["_law_script", "_law_state_here", "_law_known", "_law_core", "_law_faulty", "_law_inner", "_law_many", "_law_due", "_law_passed", "_law_told"] "law" (defScope s_law) f cdv A outer s H E) (fun cls d _ H => E cls d H) (defBody s_law) t (z_law S__law_state S__law_unlike S__law_take S__law_tree S__law_fault S__law_wrapped S__law_depth S__law_bound S_well_formed) :=
  ⟨_, by exact (zscons (zset 1 cx.nd (zcal cx c__law_state (zcons (zv 0) znil))) (zscons (zset 2 cx.nd (zcallT call_list_of lf_toList fx.b_list (zcons (zcal cx c__law_unlike (zcons (zv 1) (zcons (zcal cx c__law_take (zcons (zv 1) (zcons zint znil))) znil))) znil))) (zscons (zset 3 cx.nd (zcal cx c__law_tree (zcons (zv 1) (zcons (zv 2) (zcons zint znil))))) (zscons (zset 4 cx.nd (zcmp op_gt lf_cmpI (zcal cx c__law_take (zcons (zv 1) (zcons zint znil))) zint)) (zscons (zif (ztru (zv 4)) (zscons (zset 5 cx.nd (zcal cx c__law_fault (zcons (zv 1) (zcons (zv 2) znil)))) (zsone (zset 3 cx.nd (zix (ix_all cx.hu) lf_ix (zlst (zcons (ztup (zcons zstr (zcons (zv 5) (zcons (ztup (zcons (zv 3) znil)) znil)))) (zcons (ztup (zcons zstr (zcons (zv 3) (zcons (zv 5) (zcons (zv 3) znil))))) (zcons (ztup (zcons zstr (zcons (ztup (zcons (ztup (zcons zint (zcons (zv 3) znil))) znil)) (zcons (zv 5) znil)))) znil)))) (zcal cx c__law_take (zcons (zv 1) (zcons zint znil))))))) zsnil) (zscons (zset 6 cx.nd (zix (ix_all cx.hu) lf_ix (zlst (zcons (zcal cx c__law_take (zcons (zv 1) (zcons zint znil))) (zcons (zop op_addAll lf_add zint (zcal cx c__law_take (zcons (zv 1) (zcons zint znil)))) znil))) (zcal cx c__law_take (zcons (zv 1) (zcons zint znil))))) (zscons (zset 3 cx.nd (zcal cx c__law_wrapped (zcons (zv 1) (zcons (zv 3) (zcons (zv 6) znil))))) (zscons (zset 7 cx.nd (zandV (zcmp op_le lf_cmpI (zcal cx c__law_depth (zcons (zv 3) znil)) zint) (zandV (znotV (zv 4)) (zone (zcal cx c__law_bound (zcons (zv 3) (zcons (zv 2) znil))))))) (zscons (zset 8 cx.nd (zcallT call_list_of lf_toList fx.b_list (zcons (zv 2) znil))) (zscons (zset 9 cx.nd (zcal cx c_well_formed (zcons (zv 3) (zcons (zv 8) znil)))) (zscons (zif (ztw (zor (znot (ztru (zisi (c := .bool) fx.b_isinstance fx.own fx.isi_bool (zv 9) (pe_ty fx.b_bool)))) (zor (ztcmp (op_neAll cx.hu64) lf_ne (zv 9) (zv 7)) (zor1 (ztcmp (op_neAll cx.hu64) lf_ne (zv 8) (zv 2)))))) (zsone (zret zbl)) zsnil) (zsone (zret (zcmp (op_eqAll cx.hu64) lf_eq (zcal cx c_well_formed (zcons (zv 3) (zcons (zcallT call_tuple_of lf_toTup fx.b_tuple (zcons (zv 2) znil)) znil))) (zv 9)))))))))))))))⟩
end
end Z

set_option maxRecDepth 100000
set_option maxHeartbeats 4000000
namespace Z
open PySem L2
/-! ### trees -/
inductive T where
  | int (i : Int) | loc (i : Int) | glob (m x : Str) | prim (p : Str)
  | fn (ns : List Int) (b : T)
  | lt (ps : List (Int × T)) (b : T)
  | ite (a b c : T)
  | call (f : T) (as : List T)
mutual
def T.d : T → D
  | .int i => .tup [.str "int", .int i]
  | .loc i => .tup [.str "local", .int i]
  | .glob m x => .tup [.str "global", .str m, .str x]
  | .prim p => .tup [.str "prim", .str p]
  | .fn ns b => .tup [.str "fn", .tup (ns.map .int), b.d]
  | .lt ps b => .tup [.str "let", .tup (dPs ps), b.d]
  | .ite a b c => .tup [.str "if", a.d, b.d, c.d]
  | .call f as => .tup [.str "call", f.d, .tup (dAs as)]
def dPs : List (Int × T) → List D
  | [] => []
  | (n, t) :: r => .tup [.int n, t.d] :: dPs r
def dAs : List T → List D
  | [] => []
  | t :: r => t.d :: dAs r
end
mutual
def T.dep : T → Nat
  | .int _ => 1
  | .loc _ => 1
  | .glob _ _ => 1
  | .prim _ => 1
  | .fn _ b => 1 + b.dep
  | .lt ps b => 1 + max (depPs ps) b.dep
  | .ite a b c => 1 + max a.dep (max b.dep c.dep)
  | .call f as => 1 + max f.dep (depAs as)
def depPs : List (Int × T) → Nat
  | [] => 0
  | (_, t) :: r => max t.dep (depPs r)
def depAs : List T → Nat
  | [] => 0
  | t :: r => max t.dep (depAs r)
end
mutual
def T.bnd : T → List Int → Bool
  | .loc i, kn => decide (i ∈ kn)
  | .fn ns b, kn => b.bnd (kn ++ ns)
  | .lt ps b, kn => bndPs ps kn && b.bnd (kn ++ ps.map (·.1))
  | .ite a b c, kn => a.bnd kn && (b.bnd kn && c.bnd kn)
  | .call f as, kn => f.bnd kn && bndAs as kn
  | _, _ => true
def bndPs : List (Int × T) → List Int → Bool
  | [], _ => true
  | (_, t) :: r, kn => t.bnd kn && bndPs r kn
def bndAs : List T → List Int → Bool
  | [], _ => true
  | t :: r, kn => t.bnd kn && bndAs r kn
end
abbrev big : Int := 9999999999999999999999999999999999999999
mutual
def T.fits : T → List Int → Nat → Bool
  | .int i, _, d => decide (d ≤ 100) && (decide (0 - big ≤ i) && decide (i ≤ big))
  | .loc i, kn, d => decide (d ≤ 100) && decide (i ∈ kn)
  | .glob _ _, _, d => decide (d ≤ 100)
  | .prim p, _, d => decide (d ≤ 100) && (v_PRIMS.lookup p).isSome
  | .fn ns b, kn, d => decide (d ≤ 100) && (decide ns.Nodup && b.fits (kn ++ ns) (d + 1))
  | .lt ps b, kn, d => decide (d ≤ 100) && (decide (ps.map (·.1)).Nodup && (fitsPs ps kn (d + 1) && b.fits (kn ++ ps.map (·.1)) (d + 1)))
  | .ite a b c, kn, d => decide (d ≤ 100) && (a.fits kn (d + 1) && (b.fits kn (d + 1) && c.fits kn (d + 1)))
  | .call f as, kn, d => decide (d ≤ 100) && (f.fits kn (d + 1) && fitsAs as kn (d + 1))
def fitsPs : List (Int × T) → List Int → Nat → Bool
  | [], _, _ => true
  | (_, t) :: r, kn, d => t.fits kn d && fitsPs r kn d
def fitsAs : List T → List Int → Nat → Bool
  | [], _, _ => true
  | t :: r, kn, d => t.fits kn d && fitsAs r kn d
end
/-! small enough to be walked -/
mutual
def T.sm : T → Prop
  | .fn ns b => ns.length ≤ 3 ∧ b.sm
  | .lt ps b => ps.length ≤ 3 ∧ smPs ps ∧ b.sm
  | .ite a b c => a.sm ∧ b.sm ∧ c.sm
  | .call f as => as.length ≤ 3 ∧ f.sm ∧ smAs as
  | _ => True
def smPs : List (Int × T) → Prop
  | [] => True
  | (_, t) :: r => t.sm ∧ smPs r
def smAs : List T → Prop
  | [] => True
  | t :: r => t.sm ∧ smAs r
end
/-! no fault in it -/
mutual
def T.good : T → Prop
  | .int i => 0 - big ≤ i ∧ i ≤ big
  | .prim p => (v_PRIMS.lookup p).isSome = true
  | .fn ns b => ns.Nodup ∧ b.good
  | .lt ps b => (ps.map (·.1)).Nodup ∧ goodPs ps ∧ b.good
  | .ite a b c => a.good ∧ b.good ∧ c.good
  | .call f as => f.good ∧ goodAs as
  | _ => True
def goodPs : List (Int × T) → Prop
  | [] => True
  | (_, t) :: r => t.good ∧ goodPs r
def goodAs : List T → Prop
  | [] => True
  | t :: r => t.good ∧ goodAs r
end
theorem T.dep_pos (t : T) : 1 ≤ t.dep := by cases t <;> simp only [T.dep] <;> omega
mutual
theorem fits_good : ∀ (t : T) (kn : List Int) (d : Nat), t.good → 1 ≤ d → t.fits kn d = (decide (d + t.dep ≤ 101) && t.bnd kn)
  | .int i, kn, d, g, h => by simp only [T.good] at g; simp only [T.fits, T.dep, T.bnd, g]; simp
  | .loc i, kn, d, g, h => by simp only [T.fits, T.dep, T.bnd]; simp
  | .glob m x, kn, d, g, h => by simp only [T.fits, T.dep, T.bnd]; simp
  | .prim p, kn, d, g, h => by simp only [T.good] at g; simp only [T.fits, T.dep, T.bnd, g]; simp
  | .fn ns b, kn, d, g, h => by
    simp only [T.good] at g
    simp only [T.fits, T.dep, T.bnd, fits_good b (kn ++ ns) (d + 1) g.2 (by omega), g.1]
    have := b.dep_pos
    rw [Bool.eq_iff_iff]; simp; grind
  | .lt ps b, kn, d, g, h => by
    simp only [T.good] at g
    have e2 := b.dep_pos
    have e3 : ps = [] → depPs ps = 0 := fun e => by subst e; rfl
    simp only [T.fits, T.dep, T.bnd, fits_good b (kn ++ ps.map (·.1)) (d + 1) g.2.2 (by omega), fits_goodPs ps kn (d + 1) g.2.1 (by omega), g.1]
    rw [Bool.eq_iff_iff]; simp; grind
  | .ite a b c, kn, d, g, h => by
    simp only [T.good] at g
    have e1 := a.dep_pos
    simp only [T.fits, T.dep, T.bnd, fits_good a kn (d + 1) g.1 (by omega), fits_good b kn (d + 1) g.2.1 (by omega), fits_good c kn (d + 1) g.2.2 (by omega)]
    rw [Bool.eq_iff_iff]; simp; grind
  | .call f as, kn, d, g, h => by
    simp only [T.good] at g
    have e1 := f.dep_pos
    have e3 : as = [] → depAs as = 0 := fun e => by subst e; rfl
    simp only [T.fits, T.dep, T.bnd, fits_good f kn (d + 1) g.1 (by omega), fits_goodAs as kn (d + 1) g.2 (by omega)]
    rw [Bool.eq_iff_iff]; simp; grind
theorem fits_goodPs : ∀ (ps : List (Int × T)) (kn : List Int) (d : Nat), goodPs ps → 1 ≤ d → fitsPs ps kn d = ((decide (ps = []) || decide (d + depPs ps ≤ 101)) && bndPs ps kn)
  | [], kn, d, g, h => by simp [fitsPs, bndPs]
  | (n, t) :: r, kn, d, g, h => by
    simp only [goodPs] at g
    have e1 := t.dep_pos
    have ih := fits_goodPs r kn d g.2 h
    simp only [fitsPs, depPs, bndPs, fits_good t kn d g.1 h, ih]
    rw [Bool.eq_iff_iff]
    cases r with
    | nil => simp [depPs, bndPs]
    | cons p r => simp; grind
theorem fits_goodAs : ∀ (ps : List T) (kn : List Int) (d : Nat), goodAs ps → 1 ≤ d → fitsAs ps kn d = ((decide (ps = []) || decide (d + depAs ps ≤ 101)) && bndAs ps kn)
  | [], kn, d, g, h => by simp [fitsAs, bndAs]
  | t :: r, kn, d, g, h => by
    simp only [goodAs] at g
    have e1 := t.dep_pos
    have ih := fits_goodAs r kn d g.2 h
    simp only [fitsAs, depAs, bndAs, fits_good t kn d g.1 h, ih]
    rw [Bool.eq_iff_iff]
    cases r with
    | nil => simp [depAs, bndAs]
    | cons p r => simp; grind
end
end Z

set_option maxRecDepth 100000
set_option maxHeartbeats 4000000
namespace Z
open PySem L2
theorem i64 {n : Nat} (h : n ≤ 1000) : n ≤ sizeLine := Nat.le_of_lt (small1000 h)
/-! ### unlike -/
def Sunl : Zp := fun ds μ q _ => ∃ (d : D) (ns : List Int), ds = [d] ∧ (d = .tup (ns.map .int) ∨ d = .lst (ns.map .int)) ∧ ns.length ≤ 3 ∧ q (.bl (decide ns.Nodup)) μ
theorem hasK_iff {acc : List Key} {k : Key} : hasK acc k = true ↔ k ∈ acc := by unfold hasK; simp
theorem unl_loop {ns : List Int} {μ : Mu} {q : List Key → Mu → Prop} {o : Option D} (k : ∀ acc : List Key, (acc.length = ns.length ↔ ns.Nodup) → q acc μ) :
    zScL (zgName 1) zYes (zVar 1) [o, none] q [] (ns.map .int) μ := by
  refine sc_inv (Inv := fun i acc μ' => μ' = μ ∧ i ≤ ns.length ∧ acc.length ≤ i ∧ (∀ x, Sum.inl x ∈ acc ↔ x ∈ ns.take i) ∧ (acc.length = i ↔ (ns.take i).Nodup)) ?_ ?_ ?_
  · exact ⟨rfl, Nat.zero_le _, Nat.le_refl _, by simp, by simp⟩
  · rintro i d acc μ' K hd ⟨rfl, hi, h1, h2, h3⟩ hK
    simp only [List.getElem?_map, Option.map_eq_some_iff] at hd
    obtain ⟨x, hx, rfl⟩ := hd
    have hlt : i < ns.length := (List.getElem?_eq_some_iff.mp hx).1
    (conv => whnf)
    have et : ns.take (i + 1) = ns.take i ++ [x] := by rw [List.take_add_one, hx]; rfl
    refine hK _ _ ⟨rfl, hlt, ?_, ?_, ?_⟩
    · split
      · omega
      · simp; omega
    · intro y
      rw [et]
      by_cases hm : hasK acc (Sum.inl x) = true
      · rw [if_pos hm, List.mem_append, List.mem_singleton]
        have := (h2 x).mp (hasK_iff.mp hm)
        constructor
        · intro h; exact .inl ((h2 y).mp h)
        · rintro (h | rfl)
          · exact (h2 y).mpr h
          · exact hasK_iff.mp hm
      · rw [if_neg hm]
        simp [h2 y]
    · rw [et]
      by_cases hm : hasK acc (Sum.inl x) = true
      · rw [if_pos hm]
        have hx2 := (h2 x).mp (hasK_iff.mp hm)
        constructor
        · intro e; omega
        · intro nd
          rw [List.nodup_append] at nd
          exact absurd rfl (nd.2.2 x hx2 x (List.mem_singleton.mpr rfl))
      · rw [if_neg hm]
        have hx2 : x ∉ ns.take i := fun e => hm (hasK_iff.mpr ((h2 x).mpr e))
        rw [List.length_append, List.nodup_append]
        simp only [List.length_singleton, List.mem_singleton]
        constructor
        · intro e
          refine ⟨h3.mp (by omega), by simp, fun a ha b hb e => hx2 (by rw [← hb, ← e]; exact ha)⟩
        · rintro ⟨h, _⟩
          have := h3.mpr h
          omega
  · rintro acc μ' ⟨rfl, _, _, _, h⟩
    rw [List.length_map, List.take_length] at h
    exact k acc h
theorem unlike_ok {ds : List D} {μ : Mu} {q : ZQ} {e : ZX} (h : Sunl ds μ q e) : zBody 2 z_unlike ds μ q e := by
  obtain ⟨d, ns, rfl, hd, h3, hq⟩ := h
  have fin : ∀ acc : List Key, (acc.length = ns.length ↔ ns.Nodup) → q (.bl (decide ((acc.length : Int) = ((ns.map D.int).length : Nat)))) μ := fun acc h => by
    have : decide ((acc.length : Int) = ((ns.map D.int).length : Nat)) = decide ns.Nodup := by
      rw [List.length_map]
      exact decide_eq_decide.mpr (by rw [← h]; omega)
    rw [this]
    exact hq
  unfold z_unlike
  rcases hd with rfl | rfl
  · (conv => whnf)
    refine ⟨by simp; omega, unl_loop fun acc h => ?_⟩
    (conv => whnf)
    exact fin acc h
  · (conv => whnf)
    refine ⟨by simp; omega, unl_loop fun acc h => ?_⟩
    (conv => whnf)
    exact fin acc h
/-! ### fits -/
def Sfits (n : Nat) : Zp := fun ds μ q _ => ∃ (t : T) (kn : List Int) (d : Nat), ds = [t.d, .lst (kn.map .int), .int d] ∧ t.sm ∧ kn.length ≤ 3 * d ∧ d ≤ 101 ∧ 2 * (102 - d) ≤ n ∧ q (.bl (t.fits kn d)) μ
def Slet (n : Nat) : Zp := fun ds μ q _ => ∃ (ps : List (Int × T)) (b : T) (kn : List Int) (d : Nat), ds = [(T.lt ps b).d, .lst (kn.map .int), .int d] ∧ (T.lt ps b).sm ∧ kn.length ≤ 3 * d ∧ d ≤ 100 ∧ 2 * (102 - d) ≤ n + 1 ∧ q (.bl ((T.lt ps b).fits kn d)) μ
theorem fits_deep {t : T} {kn : List Int} {d : Nat} (h : 100 < d) : t.fits kn d = false := by
  have : decide (d ≤ 100) = false := by simp; omega
  cases t <;> simp only [T.fits, this, Bool.false_and]
theorem dAs_map : ∀ as : List T, dAs as = as.map T.d
  | [] => rfl
  | t :: r => by rw [dAs, dAs_map r]; rfl
theorem dPs_map : ∀ ps : List (Int × T), dPs ps = ps.map fun p => .tup [.int p.1, p.2.d]
  | [] => rfl
  | (n, t) :: r => by rw [dPs, dPs_map r]; rfl
theorem fitsAs_all : ∀ (as : List T) (kn : List Int) (d : Nat), fitsAs as kn d = as.all fun t => t.fits kn d
  | [], _, _ => rfl
  | t :: r, kn, d => by rw [fitsAs, fitsAs_all r]; rfl
theorem fitsPs_all : ∀ (as : List (Int × T)) (kn : List Int) (d : Nat), fitsPs as kn d = as.all fun p => p.2.fits kn d
  | [], _, _ => rfl
  | (n, t) :: r, kn, d => by rw [fitsPs, fitsPs_all r]; rfl
theorem smAs_mem : ∀ {as : List T}, smAs as → ∀ t ∈ as, t.sm
  | [], _, t, h => by simp at h
  | a :: r, s, t, h => by
    simp only [smAs] at s
    rcases List.mem_cons.mp h with rfl | h
    · exact s.1
    · exact smAs_mem s.2 t h
theorem smPs_mem : ∀ {as : List (Int × T)}, smPs as → ∀ t ∈ as, t.2.sm
  | [], _, t, h => by simp at h
  | a :: r, s, t, h => by
    simp only [smPs] at s
    rcases List.mem_cons.mp h with rfl | h
    · exact s.1
    · exact smPs_mem s.2 t h
theorem blsOf_map {α : Type} (f : α → Bool) : ∀ l : List α, blsOf (l.map fun t => D.bl (f t)) = some (l.map f)
  | [] => rfl
  | a :: r => by simp only [List.map_cons, blsOf, blOf, blsOf_map f r]
theorem intsOf_map : ∀ l : List Int, intsOf (l.map D.int) = some l
  | [] => rfl
  | a :: r => by simp only [List.map_cons, intsOf, intsOf_map r]
theorem flat_ints (l : List Int) : (l.map D.int).all flatD = true := by simp [flatD]
theorem inF_ints (i : Int) (l : List Int) : inF (.int i) (l.map D.int) = decide (i ∈ l) := by
  unfold inF
  rw [Bool.eq_iff_iff]
  simp only [List.any_map, List.any_eq_true, Function.comp, eqF, beq_iff_eq, decide_eq_true_eq]
  constructor
  · rintro ⟨x, hx, rfl⟩; exact hx
  · intro h; exact ⟨i, h, rfl⟩
theorem all_loop {n d : Nat} {kn : List Int} {as : List T} {μ : Mu} {q : ZQ} {o0 o3 o4 : Option D} (sm : smAs as) (hk : kn.length ≤ 3 * d) (hd : d ≤ 100) (hn : 2 * (102 - d) ≤ n + 1) (hq : q (.lst (as.map fun t => .bl (t.fits kn (d + 1)))) μ) :
    zLcL (zgName 5) zYes (zCall (Sfits n) (zCons (zVar 5) (zCons (zVar 1) (zCons (zOp zAdd (zVar 2) (zC (.int 1))) zNil)))) [o0, some (.lst (kn.map .int)), some (.int d), o3, o4, none] q [] (dAs as) μ := by
  refine lc_inv (Inv := fun i acc μ' => μ' = μ ∧ acc = (as.take i).map fun t => .bl (t.fits kn (d + 1))) ⟨rfl, rfl⟩ ?_ ?_
  · rintro i e acc μ' K hd' ⟨rfl, rfl⟩ hK
    rw [dAs_map, List.getElem?_map, Option.map_eq_some_iff] at hd'
    obtain ⟨t, ht, rfl⟩ := hd'
    (conv => whnf)
    refine ⟨t, kn, d + 1, rfl, smAs_mem sm t (List.mem_of_getElem? ht), by omega, by omega, by omega, ?_⟩
    refine hK _ _ ⟨rfl, ?_⟩
    rw [List.take_add_one, ht]
    simp
  · rintro acc μ' ⟨rfl, rfl⟩
    rw [dAs_map, List.length_map, List.take_length]
    exact hq
theorem fits_ok {n : Nat} {ds : List D} {μ : Mu} {q : ZQ} {e : ZX} (h : Sfits (n + 1) ds μ q e) : zBody 6 (z_fits Sunl (Sfits n) (Slet n)) ds μ q e := by
  obtain ⟨t, kn, d, rfl, sm, hk, hd, hn, hq⟩ := h
  unfold z_fits
  (conv => whnf)
  split
  · rename_i h
    have : 100 < d := by have := of_decide_eq_true h; omega
    rw [fits_deep this] at hq
    exact hq
  · rename_i h
    have h100 : d ≤ 100 := by have := of_decide_eq_false h; omega
    have hd1 : decide (d ≤ 100) = true := decide_eq_true h100
    cases t with
    | int i =>
      simp only [T.fits, hd1, Bool.true_and] at hq
      (conv => whnf)
      split
      · rename_i h1
        have h1 : decide (0 - big ≤ i) = true := D.bl.inj h1
        rw [h1, Bool.true_and] at hq
        exact hq
      · rename_i h1
        have h1 : decide (0 - big ≤ i) = false := D.bl.inj h1
        rw [h1, Bool.false_and] at hq
        exact hq
      · rename_i h1 h2
        cases e1 : decide (0 - big ≤ i) with
        | true => exact absurd (congrArg D.bl e1) h1
        | false => exact absurd (congrArg D.bl e1) h2
    | loc i =>
      simp only [T.fits, hd1, Bool.true_and] at hq
      (conv => whnf)
      refine ⟨rfl, flat_ints kn, ?_⟩
      rw [inF_ints]
      exact hq
    | glob m x =>
      simp only [T.fits, hd1] at hq
      (conv => whnf)
      exact hq
    | prim p =>
      simp only [T.fits, hd1, Bool.true_and] at hq
      (conv => whnf)
      exact hq
    | fn ns b =>
      simp only [T.fits, hd1, Bool.true_and] at hq
      simp only [T.sm] at sm
      (conv => whnf)
      refine ⟨_, ns, rfl, .inl rfl, sm.1, ?_⟩
      cases e1 : decide ns.Nodup with
      | false =>
        rw [e1, Bool.false_and] at hq
        (conv => whnf)
        exact hq
      | true =>
        rw [e1, Bool.true_and] at hq
        (conv => whnf)
        refine ⟨by simp; exact i64 (by omega), ?_⟩
        (conv => whnf)
        exact ⟨b, kn ++ ns, d + 1, by rw [List.map_append]; rfl, sm.2, by rw [List.length_append]; omega, by omega, by omega, hq⟩
    | lt ps b =>
      (conv => whnf)
      exact ⟨ps, b, kn, d, rfl, sm, hk, h100, hn, hq⟩
    | ite a b c =>
      simp only [T.fits, hd1, Bool.true_and] at hq
      simp only [T.sm] at sm
      (conv => whnf)
      refine ⟨(by decide : (3 : Nat) ≤ sizeLine), ?_⟩
      refine all_loop (as := [a, b, c]) ⟨sm.1, sm.2.1, sm.2.2, trivial⟩ hk h100 (by omega) ?_
      ((conv => whnf); (repeat ((first | rw [blsOf_map]); (conv => whnf))))
      simpa using hq
    | call f as =>
      simp only [T.fits, hd1, Bool.true_and] at hq
      simp only [T.sm] at sm
      (conv => whnf)
      refine ⟨?_, ?_⟩
      · rw [dAs_map]; simp; exact i64 (by omega)
      (conv => whnf)
      refine ⟨?_, ?_⟩
      · rw [dAs_map]; simp; exact i64 (by omega)
      refine all_loop (as := f :: as) ⟨sm.2.1, sm.2.2⟩ hk h100 (by omega) ?_
      ((conv => whnf); (repeat ((first | rw [blsOf_map]); (conv => whnf))))
      rw [fitsAs_all] at hq
      simpa using hq
theorem let_ok {n : Nat} {ds : List D} {μ : Mu} {q : ZQ} {e : ZX} (h : Slet (n + 1) ds μ q e) : zBody 7 (z_let_fits Sunl (Sfits n)) ds μ q e := by
  obtain ⟨ps, b, kn, d, rfl, sm, hk, hd, hn, hq⟩ := h
  simp only [T.sm] at sm
  have hd1 : decide (d ≤ 100) = true := decide_eq_true hd
  simp only [T.fits, hd1, Bool.true_and] at hq
  unfold z_let_fits
  (conv => whnf)
  refine ⟨by rw [dPs_map, List.length_map]; exact i64 (by omega), ?_⟩
  refine lc_inv (Inv := fun i acc μ' => μ' = μ ∧ acc = (ps.take i).map fun p => .int p.1) ⟨rfl, rfl⟩ ?_ ?_
  · rintro i e acc μ' K hd' ⟨rfl, rfl⟩ hK
    rw [dPs_map, List.getElem?_map, Option.map_eq_some_iff] at hd'
    obtain ⟨t, ht, rfl⟩ := hd'
    (conv => whnf)
    refine ⟨rfl, ?_⟩
    (conv => whnf)
    refine hK _ _ ⟨rfl, ?_⟩
    rw [List.take_add_one, ht]
    simp
  rintro acc μ' ⟨rfl, rfl⟩
  have eN : (ps.take (dPs ps).length).map (fun p => D.int p.1) = (ps.map (·.1)).map .int := by
    rw [dPs_map, List.length_map, List.take_length, List.map_map]; rfl
  rw [eN]
  (conv => whnf)
  refine ⟨_, ps.map (·.1), rfl, .inr rfl, by simp; exact sm.1, ?_⟩
  cases e1 : decide (ps.map (·.1)).Nodup with
  | false =>
    rw [e1, Bool.false_and] at hq
    (conv => whnf)
    exact hq
  | true =>
    rw [e1, Bool.true_and] at hq
    (conv => whnf)
    refine for_inv (Inv := fun i ρ μ'' => μ'' = μ' ∧ fitsPs (ps.take i) kn (d + 1) = true ∧ ∃ o4 o5, ρ = [some (T.lt ps b).d, some (.lst (kn.map .int)), some (.int d), some (.lst ((ps.map (·.1)).map .int)), o4, o5, none]) ⟨rfl, rfl, _, _, rfl⟩ ?_ ?_
    · rintro i x ρ μ'' K hd' ⟨rfl, hf, o4, o5, rfl⟩ hK
      rw [dPs_map, List.getElem?_map, Option.map_eq_some_iff] at hd'
      obtain ⟨t, ht, rfl⟩ := hd'
      (conv => whnf)
      refine ⟨rfl, ?_⟩
      (conv => whnf)
      refine ⟨t.2, kn, d + 1, rfl, smPs_mem sm.2.1 t (List.mem_of_getElem? ht), by omega, by omega, by omega, ?_⟩
      cases e2 : t.2.fits kn (d + 1) with
      | false =>
        (conv => whnf)
        have : fitsPs ps kn (d + 1) = false := by
          rw [fitsPs_all, List.all_eq_false]
          exact ⟨t, List.mem_of_getElem? ht, by rw [e2]; decide⟩
        rw [this, Bool.false_and] at hq
        exact hq
      | true =>
        (conv => whnf)
        refine hK _ _ ⟨rfl, ?_, _, _, rfl⟩
        rw [List.take_add_one, ht, fitsPs_all, List.all_append]
        rw [fitsPs_all] at hf
        simp [hf, e2]
    · rintro ρ μ'' ⟨rfl, hf, o4, o5, rfl⟩
      rw [dPs_map, List.length_map, List.take_length] at hf
      rw [hf, Bool.true_and] at hq
      (conv => whnf)
      refine ⟨by simp; exact i64 (by omega), ?_⟩
      (conv => whnf)
      exact ⟨b, kn ++ ps.map (·.1), d + 1, by rw [List.map_append]; rfl, sm.2.2, by simp; omega, by omega, by omega, hq⟩
def Swf (n : Nat) : Zp := fun ds μ q _ => ∃ (t : T) (kn : List Int) (kd : D), ds = [t.d, kd] ∧ (kd = .lst (kn.map .int) ∨ kd = .tup (kn.map .int)) ∧ t.sm ∧ kn.length ≤ 3 ∧ 202 ≤ n ∧ q (.bl (t.fits kn 1)) μ
theorem wf_ok {n : Nat} {ds : List D} {μ : Mu} {q : ZQ} {e : ZX} (h : Swf n ds μ q e) : zBody 2 (z_well_formed (Sfits n)) ds μ q e := by
  obtain ⟨t, kn, kd, rfl, hk, sm, h3, hn, hq⟩ := h
  unfold z_well_formed
  rcases hk with rfl | rfl
  · (conv => whnf)
    exact ⟨t, kn, 1, rfl, sm, by omega, by omega, by omega, hq⟩
  · (conv => whnf)
    exact ⟨t, kn, 1, rfl, sm, by omega, by omega, by omega, hq⟩
/-! ### depth -/
def Sdepth (n : Nat) : Zp := fun ds μ q _ => ∃ (t : T), ds = [t.d] ∧ t.sm ∧ t.dep ≤ n ∧ q (.int t.dep) μ
theorem depAs_le : ∀ {as : List T} {t : T}, t ∈ as → t.dep ≤ depAs as
  | [], t, h => by simp at h
  | a :: r, t, h => by
    simp only [depAs]
    rcases List.mem_cons.mp h with rfl | h
    · omega
    · have := depAs_le h; omega
theorem depAs_at : ∀ {as : List T}, as ≠ [] → ∃ t ∈ as, t.dep = depAs as
  | [], h => absurd rfl h
  | [a], _ => ⟨a, by simp, by simp [depAs]⟩
  | a :: c :: r, _ => by
    obtain ⟨t, ht, e⟩ := depAs_at (as := c :: r) (by simp)
    simp only [depAs] at e ⊢
    by_cases h : max c.dep (depAs r) ≤ a.dep
    · exact ⟨a, by simp, by omega⟩
    · exact ⟨t, List.mem_cons_of_mem _ ht, by omega⟩
theorem dep_loop {n : Nat} {as : List T} {μ : Mu} {q : ZQ} {o0 o1 o2 o3 : Option D} (sm : smAs as) (hn : depAs as ≤ n) (hq : q (.lst (as.map fun t => .int t.dep)) μ) :
    zLcL (zgName 4) zYes (zCall (Sdepth n) (zCons (zVar 4) zNil)) [o0, o1, o2, o3, none] q [] (dAs as) μ := by
  refine lc_inv (Inv := fun i acc μ' => μ' = μ ∧ acc = (as.take i).map fun t => .int t.dep) ⟨rfl, rfl⟩ ?_ ?_
  · rintro i e acc μ' K hd' ⟨rfl, rfl⟩ hK
    rw [dAs_map, List.getElem?_map, Option.map_eq_some_iff] at hd'
    obtain ⟨t, ht, rfl⟩ := hd'
    have hm := List.mem_of_getElem? ht
    (conv => whnf)
    refine ⟨t, rfl, smAs_mem sm t hm, by have := depAs_le hm; omega, ?_⟩
    refine hK _ _ ⟨rfl, ?_⟩
    rw [List.take_add_one, ht]
    simp
  · rintro acc μ' ⟨rfl, rfl⟩
    rw [dAs_map, List.length_map, List.take_length]
    exact hq
/-- behind the parts: one more than the greatest -/
theorem dep_end {n : Nat} {as : List T} {μ : Mu} {q : ZQ} {o0 o1 o2 o3 : Option D} {e : ZX} (hl : as.length ≤ 10) (sm : smAs as) (hn : depAs as ≤ n) (hq : q (.int ((1 + depAs as : Nat) : Int)) μ) :
    (zRet (zOp zAdd (zC (.int 1)) (zCB zMax (zCons (zOp zAdd (zLst (zCons (zC (.int 0)) zNil)) (zLc (ziSeq (zVar 2)) (zgName 4) zYes (zCall (Sdepth n) (zCons (zVar 4) zNil)) [4])) zNil))))
      { nx := fun _ μ' => q .non μ', rt := q, ex := fun r _ μ' => e r μ' } [o0, o1, some (.tup (dAs as)), o3, o2] μ := by
  (conv => whnf)
  refine ⟨by rw [dAs_map, List.length_map]; exact i64 (by omega), ?_⟩
  refine dep_loop sm hn ?_
  (conv => whnf)
  refine ⟨by simp; exact i64 (by omega), ?_⟩
  have e1 : intsOf ([D.int 0] ++ as.map fun t => D.int t.dep) = some (0 :: as.map fun t => (t.dep : Int)) := by
    have : ([D.int 0] ++ as.map fun t => D.int t.dep) = (0 :: as.map fun t => (t.dep : Int)).map D.int := by simp
    rw [this, intsOf_map]
  ((conv => whnf); (repeat ((first | rw [e1]); (conv => whnf))))
  refine ⟨by simp, fun m h1 h2 => ?_⟩
  have em : m = (depAs as : Nat) := by
    simp only [List.mem_cons, List.mem_map, forall_eq_or_imp] at h1 h2
    have hle : m ≤ (depAs as : Nat) := by
      rcases h1 with rfl | ⟨t, ht, rfl⟩
      · omega
      · have := depAs_le ht; omega
    have hge : (depAs as : Int) ≤ m := by
      by_cases hz : as = []
      · subst hz; simp only [depAs]; exact h2.1
      · obtain ⟨t, ht, e⟩ := depAs_at hz
        have := h2.2 _ ⟨t, ht, rfl⟩
        rw [e] at this
        exact this
    omega
  subst em
  (conv => whnf)
  have : (1 : Int) + (depAs as : Nat) = ((1 + depAs as : Nat) : Int) := by omega
  rw [this]
  exact hq
theorem depPs_As : ∀ ps : List (Int × T), depPs ps = depAs (ps.map (·.2))
  | [] => rfl
  | (n, t) :: r => by rw [depPs, depPs_As r]; rfl
theorem depAs_app : ∀ (as bs : List T), depAs (as ++ bs) = max (depAs as) (depAs bs)
  | [], bs => by simp [depAs]
  | a :: r, bs => by simp only [List.cons_append, depAs, depAs_app r bs]; omega
theorem smAs_app : ∀ {as bs : List T}, smAs as → smAs bs → smAs (as ++ bs)
  | [], bs, _, h => h
  | a :: r, bs, h, h2 => by simp only [smAs] at h; exact ⟨h.1, smAs_app h.2 h2⟩
theorem smPs_As : ∀ {ps : List (Int × T)}, smPs ps → smAs (ps.map (·.2))
  | [], _ => trivial
  | (n, t) :: r, h => by simp only [smPs] at h; exact ⟨h.1, smPs_As h.2⟩
theorem depth_ok {n : Nat} {ds : List D} {μ : Mu} {q : ZQ} {e : ZX} (h : Sdepth (n + 1) ds μ q e) : zBody 5 (z__law_depth (Sdepth n)) ds μ q e := by
  obtain ⟨t, rfl, sm, hn, hq⟩ := h
  unfold z__law_depth
  cases t with
  | int i => exact dep_end (n := n) (as := []) (o0 := some (T.int i).d) (o1 := some (.str "int")) (o2 := none) (o3 := none) (e := e) (by simp) trivial (Nat.zero_le _) hq
  | loc i => exact dep_end (n := n) (as := []) (o0 := some (T.loc i).d) (o1 := some (.str "local")) (o2 := none) (o3 := none) (e := e) (by simp) trivial (Nat.zero_le _) hq
  | glob m x => exact dep_end (n := n) (as := []) (o0 := some (T.glob m x).d) (o1 := some (.str "global")) (o2 := none) (o3 := none) (e := e) (by simp) trivial (Nat.zero_le _) hq
  | prim p => exact dep_end (n := n) (as := []) (o0 := some (T.prim p).d) (o1 := some (.str "prim")) (o2 := none) (o3 := none) (e := e) (by simp) trivial (Nat.zero_le _) hq
  | fn ns b =>
    simp only [T.sm] at sm
    simp only [T.dep] at hn hq
    exact dep_end (n := n) (as := [b]) (o0 := some (T.fn ns b).d) (o1 := some (.str "fn")) (o2 := none) (o3 := none) (e := e) (by simp) ⟨sm.2, trivial⟩ (by simp only [depAs]; omega) (by simpa [depAs] using hq)
  | lt ps b =>
    simp only [T.sm] at sm
    simp only [T.dep] at hn hq
    (conv => whnf)
    refine ⟨by rw [dPs_map, List.length_map]; exact i64 (by omega), ?_⟩
    refine lc_inv (Inv := fun i acc μ' => μ' = μ ∧ acc = (ps.take i).map fun p => p.2.d) ⟨rfl, rfl⟩ ?_ ?_
    · rintro i e acc μ' K hd' ⟨rfl, rfl⟩ hK
      rw [dPs_map, List.getElem?_map, Option.map_eq_some_iff] at hd'
      obtain ⟨t, ht, rfl⟩ := hd'
      (conv => whnf)
      refine hK _ _ ⟨rfl, ?_⟩
      rw [List.take_add_one, ht]
      simp
    rintro acc μ' ⟨rfl, rfl⟩
    have eN : (ps.take (dPs ps).length).map (fun p => p.2.d) = dAs (ps.map (·.2)) := by
      rw [dPs_map, List.length_map, List.take_length, dAs_map, List.map_map]; rfl
    rw [eN]
    (conv => whnf)
    refine ⟨by rw [dAs_map]; simp; exact i64 (by omega), ?_⟩
    have ea : dAs (ps.map (·.2)) ++ [b.d] = dAs (ps.map (·.2) ++ [b]) := by rw [dAs_map, dAs_map, List.map_append]; rfl
    rw [ea]
    exact dep_end (n := n) (as := ps.map (·.2) ++ [b]) (o0 := some (T.lt ps b).d) (o1 := some (.str "let")) (o2 := none) (o3 := none) (e := e) (by simp; omega) (smAs_app (smPs_As sm.2.1) ⟨sm.2.2, trivial⟩) (by rw [depAs_app, ← depPs_As]; simp only [depAs]; omega)
      (by rw [depAs_app, ← depPs_As]; simpa [depAs] using hq)
  | ite a b c =>
    simp only [T.sm] at sm
    simp only [T.dep] at hn hq
    exact dep_end (n := n) (as := [a, b, c]) (o0 := some (T.ite a b c).d) (o1 := some (.str "if")) (o2 := none) (o3 := none) (e := e) (by simp) ⟨sm.1, sm.2.1, sm.2.2, trivial⟩ (by simp only [depAs]; omega) (by simpa [depAs] using hq)
  | call f as =>
    simp only [T.sm] at sm
    simp only [T.dep] at hn hq
    (conv => whnf)
    refine ⟨by rw [dAs_map]; simp; exact i64 (by omega), ?_⟩
    exact dep_end (n := n) (as := f :: as) (o0 := some (T.call f as).d) (o1 := some (.str "call")) (o2 := none) (o3 := none) (e := e) (by rw [List.length_cons]; omega) ⟨sm.2.1, sm.2.2⟩ (by simp only [depAs]; omega) (by simpa [depAs] using hq)
/-! ### bound -/
def Sbound (n : Nat) : Zp := fun ds μ q _ => ∃ (t : T) (kn : List Int), ds = [t.d, .lst (kn.map .int)] ∧ t.sm ∧ t.dep ≤ n ∧ kn.length + 3 * n ≤ 600 ∧ q (.bl (t.bnd kn)) μ
theorem bndAs_all : ∀ (as : List T) (kn : List Int), bndAs as kn = as.all fun t => t.bnd kn
  | [], _ => rfl
  | t :: r, kn => by rw [bndAs, bndAs_all r]; rfl
theorem bndPs_all : ∀ (as : List (Int × T)) (kn : List Int), bndPs as kn = as.all fun p => p.2.bnd kn
  | [], _ => rfl
  | (n, t) :: r, kn => by rw [bndPs, bndPs_all r]; rfl
theorem bnd_end {n : Nat} {kn : List Int} {as : List T} {μ : Mu} {q : ZQ} {o0 o1 o2 o3 : Option D} {e : ZX} (hl : as.length ≤ 10) (sm : smAs as) (hn : depAs as ≤ n) (hk : kn.length + 3 * n ≤ 600) (hq : q (.bl (bndAs as kn)) μ) :
    (zRet (zOp zEq (zCB zLen (zCons (zLc (ziSeq (zVar 4)) (zgName 5) (zNot (zTru (zCall (Sbound n) (zCons (zVar 5) (zCons (zVar 1) zNil))))) (zVar 5) [5]) zNil)) (zC (.int 0))))
      { nx := fun _ μ' => q .non μ', rt := q, ex := fun r _ μ' => e r μ' } [o0, some (.lst (kn.map .int)), o2, o3, some (.tup (dAs as)), o1] μ := by
  (conv => whnf)
  refine ⟨by rw [dAs_map, List.length_map]; exact i64 (by omega), ?_⟩
  refine lc_inv (Inv := fun i acc μ' => μ' = μ ∧ (acc.length = 0 ↔ (as.take i).all (fun t => t.bnd kn) = true)) ⟨rfl, by simp⟩ ?_ ?_
  · rintro i e acc μ' K hd' ⟨rfl, ha⟩ hK
    rw [dAs_map, List.getElem?_map, Option.map_eq_some_iff] at hd'
    obtain ⟨t, ht, rfl⟩ := hd'
    have hm := List.mem_of_getElem? ht
    (conv => whnf)
    refine ⟨t, kn, rfl, smAs_mem sm t hm, by have := depAs_le hm; omega, hk, ?_⟩
    cases e2 : t.bnd kn with
    | false =>
      (conv => whnf)
      refine hK _ _ ⟨rfl, ?_⟩
      rw [List.take_add_one, ht]
      simp [e2]
    | true =>
      (conv => whnf)
      refine hK _ _ ⟨rfl, ?_⟩
      rw [List.take_add_one, ht]
      simp only [List.all_append, ha]
      simp [e2]
  · rintro acc μ' ⟨rfl, ha⟩
    rw [dAs_map, List.length_map, List.take_length, ← bndAs_all] at ha
    (conv => whnf)
    have : decide ((acc.length : Int) = 0) = bndAs as kn := by
      rw [Bool.eq_iff_iff, decide_eq_true_eq, ← ha]
      omega
    show q (.bl (decide ((acc.length : Int) = 0))) μ'
    rw [this]
    exact hq
theorem bound_ok {n : Nat} {ds : List D} {μ : Mu} {q : ZQ} {e : ZX} (h : Sbound (n + 1) ds μ q e) : zBody 6 (z__law_bound (Sbound n)) ds μ q e := by
  obtain ⟨t, kn, rfl, sm, hn, hk, hq⟩ := h
  unfold z__law_bound
  cases t with
  | int i => exact bnd_end (n := n) (as := []) (o0 := some (T.int i).d) (o2 := some (.str "int")) (o3 := none) (o1 := none) (e := e) (by simp) trivial (Nat.zero_le _) (by omega) hq
  | glob m x => exact bnd_end (n := n) (as := []) (o0 := some (T.glob m x).d) (o2 := some (.str "global")) (o3 := none) (o1 := none) (e := e) (by simp) trivial (Nat.zero_le _) (by omega) hq
  | prim p => exact bnd_end (n := n) (as := []) (o0 := some (T.prim p).d) (o2 := some (.str "prim")) (o3 := none) (o1 := none) (e := e) (by simp) trivial (Nat.zero_le _) (by omega) hq
  | loc i =>
    (conv => whnf)
    refine ⟨rfl, flat_ints kn, ?_⟩
    rw [inF_ints]
    exact hq
  | fn ns b =>
    simp only [T.sm] at sm
    simp only [T.dep] at hn
    (conv => whnf)
    refine ⟨by simp; exact i64 (by omega), ?_⟩
    (conv => whnf)
    exact ⟨b, kn ++ ns, by rw [List.map_append], sm.2, by omega, by rw [List.length_append]; omega, hq⟩
  | lt ps b =>
    simp only [T.sm] at sm
    simp only [T.dep] at hn
    simp only [T.bnd] at hq
    (conv => whnf)
    refine for_inv (Inv := fun i ρ μ' => μ' = μ ∧ bndPs (ps.take i) kn = true ∧ ∃ o3, ρ = [some (T.lt ps b).d, some (.lst (kn.map .int)), some (.str "let"), o3, none, none]) ⟨rfl, rfl, _, rfl⟩ ?_ ?_
    · rintro i x ρ μ' K hd' ⟨rfl, hf, o3, rfl⟩ hK
      rw [dPs_map, List.getElem?_map, Option.map_eq_some_iff] at hd'
      obtain ⟨t, ht, rfl⟩ := hd'
      have hm := List.mem_of_getElem? ht
      have hle : t.2.dep ≤ depPs ps := by rw [depPs_As]; exact depAs_le (List.mem_map_of_mem hm)
      (conv => whnf)
      refine ⟨t.2, kn, rfl, smPs_mem sm.2.1 t hm, by omega, by omega, ?_⟩
      cases e2 : t.2.bnd kn with
      | false =>
        (conv => whnf)
        have : bndPs ps kn = false := by
          rw [bndPs_all, List.all_eq_false]
          exact ⟨t, hm, by rw [e2]; decide⟩
        rw [this, Bool.false_and] at hq
        exact hq
      | true =>
        (conv => whnf)
        refine hK _ _ ⟨rfl, ?_, _, rfl⟩
        rw [List.take_add_one, ht, bndPs_all, List.all_append]
        rw [bndPs_all] at hf
        simp [hf, e2]
    · rintro ρ μ' ⟨rfl, hf, o3, rfl⟩
      rw [dPs_map, List.length_map, List.take_length] at hf
      rw [hf, Bool.true_and] at hq
      (conv => whnf)
      refine ⟨by rw [dPs_map, List.length_map]; exact i64 (by omega), ?_⟩
      refine lc_inv (Inv := fun i acc μ'' => μ'' = μ' ∧ acc = (ps.take i).map fun p => .int p.1) ⟨rfl, rfl⟩ ?_ ?_
      · rintro i e acc μ'' K hd' ⟨rfl, rfl⟩ hK
        rw [dPs_map, List.getElem?_map, Option.map_eq_some_iff] at hd'
        obtain ⟨t, ht, rfl⟩ := hd'
        (conv => whnf)
        refine hK _ _ ⟨rfl, ?_⟩
        rw [List.take_add_one, ht]
        simp
      rintro acc μ'' ⟨rfl, rfl⟩
      have eN : (ps.take (dPs ps).length).map (fun p => D.int p.1) = (ps.map (·.1)).map .int := by
        rw [dPs_map, List.length_map, List.take_length, List.map_map]; rfl
      rw [eN]
      (conv => whnf)
      refine ⟨by simp; exact i64 (by omega), ?_⟩
      (conv => whnf)
      exact ⟨b, kn ++ ps.map (·.1), by rw [List.map_append], sm.2.2, by omega, by simp; omega, hq⟩
  | ite a b c =>
    simp only [T.sm] at sm
    simp only [T.dep] at hn
    simp only [T.bnd] at hq
    exact bnd_end (n := n) (as := [a, b, c]) (o0 := some (T.ite a b c).d) (o2 := some (.str "if")) (o3 := none) (o1 := none) (e := e) (by simp) ⟨sm.1, sm.2.1, sm.2.2, trivial⟩ (by simp only [depAs]; omega) (by omega) (by simpa [bndAs] using hq)
  | call f as =>
    simp only [T.sm] at sm
    simp only [T.dep] at hn
    simp only [T.bnd] at hq
    (conv => whnf)
    refine ⟨by rw [dAs_map]; simp; exact i64 (by omega), ?_⟩
    exact bnd_end (n := n) (as := f :: as) (o0 := some (T.call f as).d) (o2 := some (.str "call")) (o3 := none) (o1 := none) (e := e) (by rw [List.length_cons]; omega) ⟨sm.2.1, sm.2.2⟩ (by simp only [depAs]; omega) (by omega) (by simpa [bndAs] using hq)
end Z

set_option maxRecDepth 100000
set_option maxHeartbeats 4000000
namespace Z
open PySem L2
/-! ### what the makers make -/
/-- a maker: by the state alone -/
def Smk (P : D → Prop) : Zp := fun ds μ q _ => ∃ s c, ds = [.ref s] ∧ StAt s c μ ∧ Makes s c μ P q
def Pnum (d : D) : Prop := ∃ i : Int, d = .int i ∧ 0 ≤ i ∧ i ≤ 1000000000
def Pint (d : D) : Prop := ∃ i : Int, d = .int i ∧ 0 - big ≤ i ∧ i ≤ big
def Puns (m : Int) (d : D) : Prop := ∃ ns : List Int, d = .tup (ns.map .int) ∧ (ns.length : Int) ≤ m ∧ ns.Nodup ∧ ∀ x ∈ ns, 0 ≤ x ∧ x ≤ 1000000000
def Punl : Zp := fun ds μ q _ => ∃ s c m, ds = [.ref s, .int m] ∧ 0 ≤ m ∧ m ≤ 3 ∧ StAt s c μ ∧ Makes s c μ (Puns m) q
theorem atI_mem {α : Type} {xs : List α} {i : Int} (h0 : 0 ≤ i) (h1 : i < xs.length) : ∃ d, atI xs i = some d ∧ d ∈ xs := by
  have e : i = ((i.toNat : Nat) : Int) := by omega
  rw [e, atI_cast]
  exact ⟨xs[i.toNat]'(by omega), List.getElem?_eq_getElem _, List.getElem_mem _⟩
theorem atI_map {α β : Type} (f : α → β) (xs : List α) (i : Int) : atI (xs.map f) i = (atI xs i).map f := by
  unfold atI
  rw [List.length_map]
  cases ixN xs.length i with
  | none => rfl
  | some j => show (xs.map f)[j]? = xs[j]?.map f; rw [List.getElem?_map]
theorem number_ok {ds : List D} {μ : Mu} {q : ZQ} {e : ZX} (h : Smk Pnum ds μ q e) : zBody 1 (z__law_number Stake) ds μ q e := by
  obtain ⟨s, c, rfl, st, k⟩ := h
  unfold z__law_number
  (conv => whnf)
  refine ⟨s, c, 4, rfl, by decide, by decide, st, ?_⟩
  rintro _ μ1 ⟨a, rfl, a0, a1⟩ st1 f1
  (conv => whnf)
  refine ⟨s, c, 4, rfl, by decide, by decide, st1, ?_⟩
  rintro _ μ2 ⟨b, rfl, b0, b1⟩ st2 f2
  (conv => whnf)
  refine ⟨s, c, 1000000001, rfl, by decide, by decide, st2, ?_⟩
  rintro _ μ3 ⟨g, rfl, g0, g1⟩ st3 f3
  (conv => whnf)
  refine ⟨s, c, 3, rfl, by decide, by decide, st3, ?_⟩
  rintro _ μ4 ⟨i, rfl, i0, i1⟩ st4 f4
  have hk := fun x (hx : 0 ≤ x ∧ x ≤ 1000000000) => k (.int x) μ4 ⟨x, rfl, hx.1, hx.2⟩ st4 (f1.trans (f2.trans (f3.trans f4)))
  obtain ⟨d, ed, hd⟩ := atI_mem (xs := [D.int a, D.int b, D.int g]) i0 (by simpa using i1)
  ((conv => whnf); (repeat ((first | rw [ed]); (conv => whnf))))
  simp only [List.mem_cons, List.not_mem_nil, or_false] at hd
  rcases hd with rfl | rfl | rfl
  · exact hk a ⟨a0, by omega⟩
  · exact hk b ⟨b0, by omega⟩
  · exact hk g ⟨g0, by omega⟩
theorem integer_ok {ds : List D} {μ : Mu} {q : ZQ} {e : ZX} (h : Smk Pint ds μ q e) : zBody 2 (z__law_integer Stake) ds μ q e := by
  obtain ⟨s, c, rfl, st, k⟩ := h
  have c40 : CPow 10 40 := ⟨by decide, by decide, by decide⟩
  unfold z__law_integer
  (conv => whnf)
  refine ⟨s, c, 3, rfl, by decide, by decide, st, ?_⟩
  rintro _ μ1 ⟨a, rfl, a0, a1⟩ st1 f1
  (conv => whnf)
  refine ⟨s, c, 1000, rfl, by decide, by decide, st1, ?_⟩
  rintro _ μ2 ⟨b, rfl, b0, b1⟩ st2 f2
  (conv => whnf)
  refine ⟨c40, ?_⟩
  (conv => whnf)
  refine ⟨s, c, 10 ^ 40, rfl, by decide, by decide, st2, ?_⟩
  rintro _ μ3 ⟨g, rfl, g0, g1⟩ st3 f3
  (conv => whnf)
  refine ⟨s, c, 3, rfl, by decide, by decide, st3, ?_⟩
  rintro _ μ4 ⟨i, rfl, i0, i1⟩ st4 f4
  have f := f1.trans (f2.trans (f3.trans f4))
  obtain ⟨d, ed, hd⟩ := atI_mem (xs := [D.int a, D.int b, D.int g]) i0 (by simpa using i1)
  have hd : ∃ x : Int, d = .int x ∧ 0 ≤ x ∧ x ≤ big := by
    have : (10 : Int) ^ 40 = 10000000000000000000000000000000000000000 := by decide
    simp only [List.mem_cons, List.not_mem_nil, or_false] at hd
    rcases hd with rfl | rfl | rfl
    · exact ⟨a, rfl, a0, by show a ≤ 9999999999999999999999999999999999999999; omega⟩
    · exact ⟨b, rfl, b0, by show b ≤ 9999999999999999999999999999999999999999; omega⟩
    · exact ⟨g, rfl, g0, by show g ≤ 9999999999999999999999999999999999999999; omega⟩
  obtain ⟨x, rfl, x0, x1⟩ := hd
  ((conv => whnf); (repeat ((first | rw [ed]); (conv => whnf))))
  refine ⟨s, c, 6, rfl, by decide, by decide, st4, ?_⟩
  rintro _ μ5 ⟨j, rfl, j0, j1⟩ st5 f5
  have fin : ∀ (x : Int) μ6, 0 ≤ x → x ≤ big → StAt s c μ6 → Fr s c μ μ6 → (zRet (zOp zIx (zLst (zCons (zVar 1) (zCons (zOp zSub (zC (.int 0)) (zVar 1)) zNil))) (zCall Stake (zCons (zVar 0) (zCons (zC (.int 2)) zNil)))))
      { nx := fun _ μ' => q .non μ', rt := q, ex := fun r _ μ' => e r μ' } [some (.ref s), some (.int x)] μ6 := fun x μ6 x0 x1 st6 f6 => by
    (conv => whnf)
    refine ⟨s, c, 2, rfl, by decide, by decide, st6, ?_⟩
    rintro _ μ7 ⟨i, rfl, i0, i1⟩ st7 f7
    obtain ⟨d, ed, hd⟩ := atI_mem (xs := [D.int x, D.int (0 - x)]) i0 (by simpa using i1)
    ((conv => whnf); (repeat ((first | rw [ed]); (conv => whnf))))
    simp only [List.mem_cons, List.not_mem_nil, or_false] at hd
    have b0 : big = 9999999999999999999999999999999999999999 := rfl
    rcases hd with rfl | rfl
    · exact k _ _ ⟨x, rfl, by omega, x1⟩ st7 (f6.trans f7)
    · exact k _ _ ⟨0 - x, rfl, by omega, by omega⟩ st7 (f6.trans f7)
  (conv => whnf)
  split
  · (conv => whnf)
    refine ⟨c40, ?_⟩
    (conv => whnf)
    refine ⟨s, c, 3, rfl, by decide, by decide, st5, ?_⟩
    rintro _ μ6 ⟨v, rfl, v0, v1⟩ st6 f6
    refine fin (10 ^ 40 - 1 - v) μ6 ?_ ?_ st6 ((f.trans f5).trans f6)
    · have : (10 : Int) ^ 40 = 10000000000000000000000000000000000000000 := by decide
      omega
    · have : (10 : Int) ^ 40 = 10000000000000000000000000000000000000000 := by decide
      have b0 : big = 9999999999999999999999999999999999999999 := rfl
      omega
  · exact fin x μ5 x0 x1 st5 (f.trans f5)
theorem St.own {s c p : Addr} {μ : Mu} {d : D} (st : StAt s c μ) (hp : μ p = none) : StAt s c (updM μ p d) ∧ s ≠ p ∧ c ≠ p := by
  obtain ⟨ne, ⟨xs, hc⟩, v, hs⟩ := st
  have h1 : s ≠ p := fun e => by rw [e, hp] at hs; cases hs
  have h2 : c ≠ p := fun e => by rw [e, hp] at hc; cases hc
  exact ⟨⟨ne, ⟨xs, by rw [updM_ne h2]; exact hc⟩, v, by rw [updM_ne h1]; exact hs⟩, h1, h2⟩
theorem St.upd {s c p : Addr} {μ : Mu} {d : D} (st : StAt s c μ) (h1 : s ≠ p) (h2 : c ≠ p) : StAt s c (updM μ p d) := by
  obtain ⟨ne, ⟨xs, hc⟩, v, hs⟩ := st
  exact ⟨ne, ⟨xs, by rw [updM_ne h2]; exact hc⟩, v, by rw [updM_ne h1]; exact hs⟩
theorem uns_ok {ds : List D} {μ : Mu} {q : ZQ} {e : ZX} (h : Punl ds μ q e) : zBody 5 (z__law_unlike (Smk Pnum)) ds μ q e := by
  obtain ⟨s, c, m, rfl, m0, m3, st, k⟩ := h
  have sz : (10 : Nat) < sizeLine := by decide
  unfold z__law_unlike
  (conv => whnf)
  intro p hp
  obtain ⟨stp, sp, cp⟩ := St.own (d := .lst []) st hp
  (conv => whnf)
  refine ⟨by omega, by omega, ?_⟩
  refine for_inv (Inv := fun i ρ μ' => ∃ ns : List Int, μ' p = some (.lst (ns.map .int)) ∧ ns.length ≤ i ∧ ns.Nodup ∧ (∀ x ∈ ns, 0 ≤ x ∧ x ≤ 1000000000) ∧ StAt s c μ' ∧ Fr s c μ μ' ∧ ∃ o3 o4, ρ = [some (.ref s), some (.int m), some (.ref p), o3, o4]) ?_ ?_ ?_
  · refine ⟨[], updM_same, Nat.le_refl _, List.nodup_nil, by simp, stp, fun b u h1 h2 h => ?_, _, _, rfl⟩
    rw [updM_ne (fun e => by rw [e, hp] at h; cases h)]
    exact h
  · rintro i x ρ μ1 K hx ⟨ns, hp1, hl, hnd, hb, st1, f1, o3, o4, rfl⟩ hK
    have hi : i < m.toNat := by
      have := (List.getElem?_eq_some_iff.mp hx).1
      simpa using this
    (conv => whnf)
    refine ⟨s, c, rfl, st1, ?_⟩
    rintro _ μ2 ⟨x, rfl, x0, x1⟩ st2 f2
    have hp2 : μ2 p = some (.lst (ns.map .int)) := f2 p _ (Ne.symm sp) (Ne.symm cp) hp1
    ((conv => whnf); (repeat ((first | rw [seq_ref hp2]); (conv => whnf))))
    refine ⟨rfl, flat_ints ns, ?_⟩
    simp only [inF_ints]
    by_cases hm : x ∈ ns
    · simp only [decide_eq_true hm]
      (conv => whnf)
      exact hK _ _ ⟨ns, hp2, by omega, hnd, hb, st2, f1.trans f2, _, _, rfl⟩
    · simp only [decide_eq_false hm]
      ((conv => whnf); (repeat ((first | rw [isL_ref hp2] | rw [hp2]); (conv => whnf))))
      refine ⟨by simp; omega, ?_⟩
      refine hK _ _ ⟨ns ++ [x], by rw [updM_same, List.map_append]; rfl, by simp; omega, ?_, ?_, St.upd st2 sp cp, fun b u h1 h2 h => ?_, _, _, rfl⟩
      · rw [List.nodup_append]
        exact ⟨hnd, by simp, fun a ha b hb e => hm (by rw [List.mem_singleton] at hb; rw [← hb, ← e]; exact ha)⟩
      · intro y hy
        rw [List.mem_append, List.mem_singleton] at hy
        rcases hy with hy | rfl
        · exact hb y hy
        · exact ⟨x0, x1⟩
      · rw [updM_ne (fun e => by rw [e, hp] at h; cases h)]
        exact f2 b u h1 h2 (f1 b u h1 h2 h)
  · rintro ρ μ1 ⟨ns, hp1, hl, hnd, hb, st1, f1, o3, o4, rfl⟩
    ((conv => whnf); (repeat ((first | rw [seq_ref hp1]); (conv => whnf))))
    refine k _ _ ⟨ns, rfl, ?_, hnd, hb⟩ st1 f1
    simp at hl
    omega
/-! ### leaves and trees -/
def Ptr (r : Nat) (d : D) : Prop := ∃ t : T, d = t.d ∧ t.good ∧ t.sm ∧ t.dep ≤ r
def Sleaf : Zp := fun ds μ q _ => ∃ (s c : Addr) (kn : List Int), ds = [.ref s, .lst (kn.map .int)] ∧ kn.length ≤ 100 ∧ StAt s c μ ∧ Makes s c μ (Ptr 1) q
theorem leaf_ok {ds : List D} {μ : Mu} {q : ZQ} {e : ZX} (h : Sleaf ds μ q e) : zBody 3 (z__law_leaf Stake (Smk Pint)) ds μ q e := by
  obtain ⟨s, c, kn, rfl, h100, st, k⟩ := h
  unfold z__law_leaf
  (conv => whnf)
  refine ⟨s, c, 5, rfl, by decide, by decide, st, ?_⟩
  rintro _ μ1 ⟨a, rfl, a0, a1⟩ st1 f1
  -- the rest
  have rest : (zSeq (zIfS (zTst (zOp zEq (zVar 2) (zC (.int 1)))) (zRet (zTup (zCons (zC (.str "prim")) (zCons (zOp zIx (zLst (zCons (zC (.str "+")) (zCons (zC (.str "-")) (zCons (zC (.str "*")) (zCons (zC (.str "<")) (zCons (zC (.str "=")) (zCons (zC (.str "pair")) (zCons (zC (.str "first")) (zCons (zC (.str "second")) zNil))))))))) (zCall Stake (zCons (zVar 0) (zCons (zC (.int 8)) zNil)))) zNil)))) zNext) (zSeq (zIfS (zTst (zOp zEq (zVar 2) (zC (.int 2)))) (zRet (zTup (zCons (zC (.str "global")) (zCons (zOp zIx (zLst (zCons (zC (.str "m")) (zCons (zC (.str "a-b")) (zCons (zC (.str "...")) zNil)))) (zCall Stake (zCons (zVar 0) (zCons (zC (.int 3)) zNil)))) (zCons (zOp zIx (zLst (zCons (zC (.str "x")) (zCons (zC (.str "f2")) (zCons (zC (.str "+")) zNil)))) (zCall Stake (zCons (zVar 0) (zCons (zC (.int 3)) zNil)))) zNil))))) zNext) (zRet (zTup (zCons (zC (.str "int")) (zCons (zCall (Smk Pint) (zCons (zVar 0) zNil)) zNil))))))
      { nx := fun _ μ' => q .non μ', rt := q, ex := fun r _ μ' => e r μ' } [some (.ref s), some (.lst (kn.map .int)), some (.int a)] μ1 := by
    (conv => whnf)
    split
    · (conv => whnf)
      refine ⟨s, c, 8, rfl, by decide, by decide, st1, ?_⟩
      rintro _ μ2 ⟨i, rfl, i0, i1⟩ st2 f2
      obtain ⟨p, ep, hp⟩ := atI_mem (xs := (["+", "-", "*", "<", "=", "pair", "first", "second"] : List Str)) i0 (by simpa using i1)
      have ed : atI [D.str "+", .str "-", .str "*", .str "<", .str "=", .str "pair", .str "first", .str "second"] i = some (.str p) := by
        have := atI_map D.str (["+", "-", "*", "<", "=", "pair", "first", "second"] : List Str) i
        rw [ep] at this
        exact this
      ((conv => whnf); (repeat ((first | rw [ed]); (conv => whnf))))
      refine k _ _ ⟨.prim p, rfl, ?_, trivial, Nat.le_refl _⟩ st2 (f1.trans f2)
      simp only [T.good]
      simp only [List.mem_cons, List.not_mem_nil, or_false] at hp
      rcases hp with rfl | rfl | rfl | rfl | rfl | rfl | rfl | rfl <;> decide
    · (conv => whnf)
      split
      · (conv => whnf)
        refine ⟨s, c, 3, rfl, by decide, by decide, st1, ?_⟩
        rintro _ μ2 ⟨i, rfl, i0, i1⟩ st2 f2
        obtain ⟨p, ep, hp⟩ := atI_mem (xs := (["m", "a-b", "..."] : List Str)) i0 (by simpa using i1)
        have ed : atI [D.str "m", .str "a-b", .str "..."] i = some (.str p) := by
          have := atI_map D.str (["m", "a-b", "..."] : List Str) i
          rw [ep] at this
          exact this
        ((conv => whnf); (repeat ((first | rw [ed]); (conv => whnf))))
        refine ⟨s, c, 3, rfl, by decide, by decide, st2, ?_⟩
        rintro _ μ3 ⟨j, rfl, j0, j1⟩ st3 f3
        obtain ⟨p2, ep2, hp2⟩ := atI_mem (xs := (["x", "f2", "+"] : List Str)) j0 (by simpa using j1)
        have ed2 : atI [D.str "x", .str "f2", .str "+"] j = some (.str p2) := by
          have := atI_map D.str (["x", "f2", "+"] : List Str) j
          rw [ep2] at this
          exact this
        ((conv => whnf); (repeat ((first | rw [ed2]); (conv => whnf))))
        exact k _ _ ⟨.glob p p2, rfl, trivial, trivial, Nat.le_refl _⟩ st3 (f1.trans (f2.trans f3))
      · (conv => whnf)
        refine ⟨s, c, rfl, st1, ?_⟩
        rintro _ μ2 ⟨i, rfl, i0, i1⟩ st2 f2
        (conv => whnf)
        exact k _ _ ⟨.int i, rfl, ⟨i0, i1⟩, trivial, Nat.le_refl _⟩ st2 (f1.trans f2)
  (conv => whnf)
  split
  · (conv => whnf)
    split
    · rename_i hl
      have hl : (0 : Int) < ((kn.map D.int).length : Nat) := of_decide_eq_true hl
      rw [List.length_map] at hl
      (conv => whnf)
      refine ⟨s, c, _, rfl, by simp; omega, by simp; omega, st1, ?_⟩
      rintro _ μ2 ⟨i, rfl, i0, i1⟩ st2 f2
      obtain ⟨x, ex, hx⟩ := atI_mem (xs := kn) i0 (by simpa using i1)
      have ed : atI (kn.map D.int) i = some (.int x) := by
        rw [atI_map, ex]; rfl
      ((conv => whnf); (repeat ((first | rw [ed]); (conv => whnf))))
      exact k _ _ ⟨.loc x, rfl, trivial, trivial, Nat.le_refl _⟩ st2 (f1.trans f2)
    · exact rest
  · exact rest
end Z

set_option maxRecDepth 100000
set_option maxHeartbeats 4000000
namespace Z
open PySem L2
def Stree (n : Nat) : Zp := fun ds μ q _ => ∃ (s c : Addr) (kn : List Int) (r : Nat), ds = [.ref s, .lst (kn.map .int), .int r] ∧ r < n ∧ kn.length + 3 * r ≤ 100 ∧ StAt s c μ ∧ Makes s c μ (Ptr (r + 1)) q
theorem dPs_app : ∀ (a b : List (Int × T)), dPs (a ++ b) = dPs a ++ dPs b := fun a b => by rw [dPs_map, dPs_map, dPs_map, List.map_append]
theorem dAs_app : ∀ (a b : List T), dAs (a ++ b) = dAs a ++ dAs b := fun a b => by rw [dAs_map, dAs_map, dAs_map, List.map_append]
theorem goodPs_app : ∀ {a b : List (Int × T)}, goodPs a → goodPs b → goodPs (a ++ b)
  | [], _, _, h => h
  | (n, t) :: r, b, h, h2 => by simp only [goodPs] at h; exact ⟨h.1, goodPs_app h.2 h2⟩
theorem smPs_app : ∀ {a b : List (Int × T)}, smPs a → smPs b → smPs (a ++ b)
  | [], _, _, h => h
  | (n, t) :: r, b, h, h2 => by simp only [smPs] at h; exact ⟨h.1, smPs_app h.2 h2⟩
theorem goodAs_app : ∀ {a b : List T}, goodAs a → goodAs b → goodAs (a ++ b)
  | [], _, _, h => h
  | t :: r, b, h, h2 => by simp only [goodAs] at h; exact ⟨h.1, goodAs_app h.2 h2⟩
theorem depPs_app : ∀ (a b : List (Int × T)), depPs (a ++ b) = max (depPs a) (depPs b) := fun a b => by rw [depPs_As, depPs_As, depPs_As, List.map_append, depAs_app]
theorem dAs_len (as : List T) : (dAs as).length = as.length := by rw [dAs_map, List.length_map]
theorem dPs_len (as : List (Int × T)) : (dPs as).length = as.length := by rw [dPs_map, List.length_map]
theorem cast_sub {r : Nat} (h : 1 ≤ r) : (r : Int) - 1 = ((r - 1 : Nat) : Int) := by omega
theorem tree_ok {n : Nat} {ds : List D} {μ : Mu} {q : ZQ} {e : ZX} (h : Stree (n + 1) ds μ q e) : zBody 9 (z__law_tree Stake Sleaf Punl (Stree n)) ds μ q e := by
  obtain ⟨s, c, kn, r, rfl, hr, hk, st, k⟩ := h
  unfold z__law_tree
  (conv => whnf)
  refine ⟨s, c, 7, rfl, by decide, by decide, st, ?_⟩
  rintro _ μ1 ⟨a, rfl, a0, a1⟩ st1 f1
  have leaf : Sleaf [.ref s, .lst (kn.map .int)] μ1 q (fun r μ' => e r μ') := ⟨s, c, kn, rfl, by omega, st1, fun d μ' p st' f => k d μ' (by
    obtain ⟨t, e, g, m, dd⟩ := p
    exact ⟨t, e, g, m, by omega⟩) st' (f1.trans f)⟩
  (conv => whnf)
  split
  · exact leaf
  rename_i h2
  have r2 : 2 ≤ r := by have := of_decide_eq_false h2; omega
  (conv => whnf)
  split
  · exact leaf
  rename_i h2
  (conv => whnf)
  split
  · -- fn
    (conv => whnf)
    refine ⟨s, c, 4, rfl, by decide, by decide, st1, ?_⟩
    rintro _ μ2 ⟨m, rfl, m0, m1⟩ st2 f2
    (conv => whnf)
    refine ⟨s, c, m, rfl, m0, by omega, st2, ?_⟩
    rintro _ μ3 ⟨ns, rfl, nl, nd, nb⟩ st3 f3
    (conv => whnf)
    refine ⟨by simp; exact i64 (by omega), ?_⟩
    (conv => whnf)
    refine ⟨s, c, kn ++ ns, r - 1, by rw [cast_sub (by omega), List.map_append], by omega, by rw [List.length_append]; omega, st3, ?_⟩
    rintro _ μ4 ⟨t, rfl, g, sm, dd⟩ st4 f4
    (conv => whnf)
    exact k _ _ ⟨.fn ns t, rfl, ⟨nd, g⟩, ⟨by omega, sm⟩, by simp only [T.dep]; omega⟩ st4 (f1.trans (f2.trans (f3.trans f4)))
  (conv => whnf)
  split
  · -- let
    (conv => whnf)
    refine ⟨s, c, 4, rfl, by decide, by decide, st1, ?_⟩
    rintro _ μ2 ⟨m, rfl, m0, m1⟩ st2 f2
    (conv => whnf)
    refine ⟨s, c, m, rfl, m0, by omega, st2, ?_⟩
    rintro _ μ3 ⟨ns, rfl, nl, nd, nb⟩ st3 f3
    (conv => whnf)
    refine ⟨by simp; exact i64 (by omega), ?_⟩
    refine lc_inv (Inv := fun i acc μ' => ∃ ps : List (Int × T), acc = dPs ps ∧ ps.map (·.1) = ns.take i ∧ goodPs ps ∧ smPs ps ∧ depPs ps ≤ r ∧ StAt s c μ' ∧ Fr s c μ3 μ') ⟨[], rfl, rfl, trivial, trivial, Nat.zero_le _, st3, Fr.refl⟩ ?_ ?_
    · rintro i x acc μ4 K hx ⟨ps, rfl, e1, g, sm, dd, st4, f4⟩ hK
      rw [List.getElem?_map, Option.map_eq_some_iff] at hx
      obtain ⟨x, hx, rfl⟩ := hx
      (conv => whnf)
      refine ⟨s, c, kn, r - 1, by rw [cast_sub (by omega)], by omega, by omega, st4, ?_⟩
      rintro _ μ5 ⟨t, rfl, g5, sm5, dd5⟩ st5 f5
      (conv => whnf)
      refine hK _ _ ⟨ps ++ [(x, t)], by rw [dPs_app]; rfl, ?_, goodPs_app g ⟨g5, trivial⟩, smPs_app sm ⟨sm5, trivial⟩, by rw [depPs_app]; simp only [depPs]; omega, st5, f4.trans f5⟩
      rw [List.map_append, e1, List.take_add_one, hx]
      rfl
    rintro acc μ4 ⟨ps, rfl, e1, g, sm, dd, st4, f4⟩
    rw [List.length_map, List.take_length] at e1
    have lp : ps.length = ns.length := by rw [← e1, List.length_map]
    (conv => whnf)
    refine ⟨by simp; exact i64 (by omega), ?_⟩
    (conv => whnf)
    refine ⟨s, c, kn ++ ns, r - 1, by rw [cast_sub (by omega), List.map_append], by omega, by rw [List.length_append]; omega, st4, ?_⟩
    rintro _ μ5 ⟨t, rfl, g5, sm5, dd5⟩ st5 f5
    (conv => whnf)
    exact k _ _ ⟨.lt ps t, rfl, ⟨by rw [e1]; exact nd, g, g5⟩, ⟨by omega, sm, sm5⟩, by simp only [T.dep]; omega⟩ st5 (f1.trans (f2.trans (f3.trans (f4.trans f5))))
  -- three parts
  (conv => whnf)
  refine ⟨by decide, by decide, ?_⟩
  refine ⟨by decide, ?_⟩
  refine lc_inv (Inv := fun i acc μ' => ∃ as : List T, acc = dAs as ∧ as.length = i ∧ goodAs as ∧ smAs as ∧ depAs as ≤ r ∧ StAt s c μ' ∧ Fr s c μ1 μ') ⟨[], rfl, rfl, trivial, trivial, Nat.zero_le _, st1, Fr.refl⟩ ?_ ?_
  · rintro i x acc μ4 K hx ⟨as, rfl, e1, g, sm, dd, st4, f4⟩ hK
    (conv => whnf)
    refine ⟨s, c, kn, r - 1, by rw [cast_sub (by omega)], by omega, by omega, st4, ?_⟩
    rintro _ μ5 ⟨t, rfl, g5, sm5, dd5⟩ st5 f5
    exact hK _ _ ⟨as ++ [t], by rw [dAs_app]; rfl, by simp [e1], goodAs_app g ⟨g5, trivial⟩, smAs_app sm ⟨sm5, trivial⟩, by rw [depAs_app]; simp only [depAs]; omega, st5, f4.trans f5⟩
  rintro acc μ4 ⟨as, rfl, e1, g, sm, dd, st4, f4⟩
  have e1 : as.length = 3 := e1
  obtain ⟨x, y, z, rfl⟩ : ∃ x y z, as = [x, y, z] := by
    match as, e1 with
    | [x, y, z], _ => exact ⟨x, y, z, rfl⟩
  simp only [goodAs] at g
  simp only [smAs] at sm
  simp only [depAs] at dd
  (conv => whnf)
  split
  · (conv => whnf)
    exact k _ _ ⟨.ite x y z, rfl, ⟨g.1, g.2.1, g.2.2.1⟩, ⟨sm.1, sm.2.1, sm.2.2.1⟩, by simp only [T.dep]; omega⟩ st4 (f1.trans f4)
  · (conv => whnf)
    refine ⟨s, c, 3, rfl, by decide, by decide, st4, ?_⟩
    rintro _ μ5 ⟨i, rfl, i0, i1⟩ st5 f5
    have fin : ∀ as : List T, goodAs as → smAs as → depAs as ≤ r → as.length ≤ 3 → q (.tup [.str "call", x.d, .tup (dAs as)]) μ5 := fun as g2 s2 d2 l2 =>
      k _ _ ⟨.call x as, rfl, ⟨g.1, g2⟩, ⟨l2, sm.1, s2⟩, by simp only [T.dep]; omega⟩ st5 (f1.trans (f4.trans f5))
    have i3 : i = 0 ∨ i = 1 ∨ i = 2 := by omega
    rcases i3 with rfl | rfl | rfl
    · exact fin [] trivial trivial (Nat.zero_le _) (by decide)
    · exact fin [y] ⟨g.2.1, trivial⟩ ⟨sm.2.1, trivial⟩ (by simp only [depAs]; omega) (by simp)
    · exact fin [y, z] ⟨g.2.1, g.2.2.1, trivial⟩ ⟨sm.2.1, sm.2.2.1, trivial⟩ (by simp only [depAs]; omega) (by simp)
end Z

set_option maxRecDepth 100000
set_option maxHeartbeats 4000000
namespace Z
open PySem L2
/-- it never fits: kn holds numbers of base and small ones alone -/
def FalseIn (base : List Int) (t : T) : Prop := ∀ kn d, (∀ x ∈ kn, x ∈ base ∨ x < 20) → t.fits kn d = false
structure Wr (m : Nat) (t t' : T) : Prop where
  sm : t.sm → t'.sm
  dep : t'.dep ≤ max t.dep 1 + m
  good : t.good → t'.good
  bad : ∀ base, FalseIn base t → FalseIn base t'
theorem Wr.refl {t : T} : Wr 0 t t := ⟨id, by omega, id, fun _ h => h⟩
theorem Wr.step {m : Nat} {t u v : T} (a : Wr m t u) (sm : u.sm → v.sm) (dep : v.dep ≤ 1 + max u.dep 1) (good : u.good → v.good) (bad : ∀ base, FalseIn base u → FalseIn base v) : Wr (m + 1) t v :=
  ⟨fun h => sm (a.sm h), by have := a.dep; omega, fun h => good (a.good h), fun b h => bad b (a.bad b h)⟩
def Swrap : Zp := fun ds μ q _ => ∃ (s c : Addr) (t : T) (m : Nat), ds = [.ref s, t.d, .int m] ∧ m ≤ 200 ∧ StAt s c μ ∧ Makes s c μ (fun d => ∃ t', d = T.d t' ∧ Wr m t t') q
theorem and_false' {a b : Bool} (h : b = false) : (a && b) = false := by rw [h, Bool.and_false]
theorem fals_app {base kn ns : List Int} (h : ∀ x ∈ kn, x ∈ base ∨ x < 20) (h2 : ∀ x ∈ ns, x < 20) : ∀ x ∈ kn ++ ns, x ∈ base ∨ x < 20 := fun x hx => by
  rcases List.mem_append.mp hx with hx | hx
  · exact h x hx
  · exact .inr (h2 x hx)
theorem wrapped_ok {ds : List D} {μ : Mu} {q : ZQ} {e : ZX} (h : Swrap ds μ q e) : zBody 6 (z__law_wrapped Stake) ds μ q e := by
  obtain ⟨s, c, t, m, rfl, hm, st, k⟩ := h
  unfold z__law_wrapped
  (conv => whnf)
  refine ⟨by omega, by omega, ?_⟩
  refine for_inv (Inv := fun i ρ μ' => ∃ u : T, Wr i t u ∧ StAt s c μ' ∧ Fr s c μ μ' ∧ ∃ o3 o4 o5, ρ = [some (.ref s), some u.d, some (.int m), o3, o4, o5]) ⟨t, Wr.refl, st, Fr.refl, _, _, _, rfl⟩ ?_ ?_
  · rintro i x ρ μ1 K hx ⟨u, w, st1, f1, o3, o4, o5, rfl⟩ hK
    simp only [List.getElem?_map, Option.map_eq_some_iff] at hx
    obtain ⟨j, hj, rfl⟩ := hx
    have hj2 : j < 200 := by
      obtain ⟨h1, h2⟩ := List.getElem?_eq_some_iff.mp hj
      have : i < m := by simpa using h1
      rw [← h2]; simp; omega
    have hx0 : (T.int (0 + (j : Int))).good := ⟨by show 0 - 9999999999999999999999999999999999999999 ≤ 0 + (j : Int); omega, by show 0 + (j : Int) ≤ 9999999999999999999999999999999999999999; omega⟩
    have du := u.dep_pos
    (conv => whnf)
    refine ⟨s, c, 6, rfl, by decide, by decide, st1, ?_⟩
    rintro _ μ2 ⟨a, rfl, a0, a1⟩ st2 f2
    (conv => whnf)
    split
    · refine hK _ _ ⟨.fn [7] u, Wr.step w (fun h => ⟨by simp, h⟩) (by simp only [T.dep]; omega) (fun h => ⟨by simp, h⟩) (fun base h kn d hkn => ?_), st2, f1.trans f2, _, _, _, rfl⟩
      simp only [T.fits]
      exact and_false' (and_false' (h _ _ (fals_app hkn (by simp))))
    (conv => whnf)
    split
    · refine hK _ _ ⟨.lt [(8, u), (9, .int (0 + j))] (.int (0 + j)), Wr.step w (fun h => ⟨by simp, ⟨h, trivial, trivial⟩, trivial⟩) (by simp only [T.dep, depPs]; omega) (fun h => ⟨by simp, ⟨h, hx0, trivial⟩, hx0⟩) (fun base h kn d hkn => ?_), st2, f1.trans f2, _, _, _, rfl⟩
      simp only [T.fits, fitsPs]
      rw [h _ _ hkn]
      simp
    (conv => whnf)
    split
    · refine hK _ _ ⟨.lt [(8, .int (0 + j))] u, Wr.step w (fun h => ⟨by simp, ⟨trivial, trivial⟩, h⟩) (by simp only [T.dep, depPs]; omega) (fun h => ⟨by simp, ⟨hx0, trivial⟩, h⟩) (fun base h kn d hkn => ?_), st2, f1.trans f2, _, _, _, rfl⟩
      simp only [T.fits]
      exact and_false' (and_false' (and_false' (h _ _ (fals_app hkn (by simp)))))
    (conv => whnf)
    split
    · (conv => whnf)
      refine ⟨s, c, 3, rfl, by decide, by decide, st2, ?_⟩
      rintro _ μ3 ⟨b, rfl, b0, b1⟩ st3 f3
      have b3 : b = 0 ∨ b = 1 ∨ b = 2 := by omega
      rcases b3 with rfl | rfl | rfl
      · refine hK _ _ ⟨.ite u (.int (0 + j)) (.int (0 + j)), Wr.step w (fun h => ⟨h, trivial, trivial⟩) (by simp only [T.dep]; omega) (fun h => ⟨h, hx0, hx0⟩) (fun base h kn d hkn => ?_), st3, f1.trans (f2.trans f3), _, _, _, rfl⟩
        simp only [T.fits]
        rw [h _ _ hkn]; simp
      · refine hK _ _ ⟨.ite (.int (0 + j)) u (.int (0 + j)), Wr.step w (fun h => ⟨trivial, h, trivial⟩) (by simp only [T.dep]; omega) (fun h => ⟨hx0, h, hx0⟩) (fun base h kn d hkn => ?_), st3, f1.trans (f2.trans f3), _, _, _, rfl⟩
        simp only [T.fits]
        rw [h _ _ hkn]; simp
      · refine hK _ _ ⟨.ite (.int (0 + j)) (.int (0 + j)) u, Wr.step w (fun h => ⟨trivial, trivial, h⟩) (by simp only [T.dep]; omega) (fun h => ⟨hx0, hx0, h⟩) (fun base h kn d hkn => ?_), st3, f1.trans (f2.trans f3), _, _, _, rfl⟩
        simp only [T.fits]
        rw [h _ _ hkn]; simp
    (conv => whnf)
    split
    · refine hK _ _ ⟨.call u [.int (0 + j)], Wr.step w (fun h => ⟨by simp, h, trivial, trivial⟩) (by simp only [T.dep, depAs]; omega) (fun h => ⟨h, hx0, trivial⟩) (fun base h kn d hkn => ?_), st2, f1.trans f2, _, _, _, rfl⟩
      simp only [T.fits]
      rw [h _ _ hkn]; simp
    · refine hK _ _ ⟨.call (.int (0 + j)) [.int (0 + j), u], Wr.step w (fun h => ⟨by simp, trivial, trivial, h, trivial⟩) (by simp only [T.dep, depAs]; omega) (fun h => ⟨hx0, hx0, h, trivial⟩) (fun base h kn d hkn => ?_), st2, f1.trans f2, _, _, _, rfl⟩
      simp only [T.fits, fitsAs]
      rw [h _ _ hkn]; simp
  · rintro ρ μ1 ⟨u, w, st1, f1, o3, o4, o5, rfl⟩
    have el : ((List.range (m : Int).toNat).map fun (i : Nat) => D.int (0 + (i : Int))).length = m := by simp
    rw [el] at w
    exact k _ _ ⟨u, rfl, w⟩ st1 f1
def Sfault : Zp := fun ds μ q _ => ∃ (s c : Addr) (kn : List Int), ds = [.ref s, .lst (kn.map .int)] ∧ kn.length ≤ 3 ∧ StAt s c μ ∧ Makes s c μ (fun d => ∃ t, d = T.d t ∧ t.sm ∧ t.dep ≤ 2 ∧ FalseIn kn t) q
theorem pigeon {kn : List Int} {n : Int} (h3 : kn.length ≤ 3) (h : ∀ x, 20 ≤ x → x < n → x ∈ kn) : n ≤ 20 + kn.length := by
  rcases Int.lt_or_le (20 + kn.length) n with hlt | hle
  · exfalso
    have h0 := h 20 (by omega) (by omega)
    match kn, h3 with
    | [], _ => simp at h0
    | [a], _ =>
      have h1 := h 21 (by omega) (by simp at hlt; omega)
      simp at h0 h1; omega
    | [a, b], _ =>
      have h1 := h 21 (by omega) (by simp at hlt; omega)
      have h2 := h 22 (by omega) (by simp at hlt; omega)
      simp at h0 h1 h2; omega
    | [a, b, c], _ =>
      have h1 := h 21 (by omega) (by simp at hlt; omega)
      have h2 := h 22 (by omega) (by simp at hlt; omega)
      have h3 := h 23 (by omega) (by simp at hlt; omega)
      simp at h0 h1 h2 h3; omega
  · exact hle
theorem fault_ok {ds : List D} {μ : Mu} {q : ZQ} {e : ZX} (h : Sfault ds μ q e) : zBody 7 (z__law_fault Stake (Smk Pnum)) ds μ q e := by
  obtain ⟨s, c, kn, rfl, h3, st, k⟩ := h
  have c40 : CPow 10 40 := ⟨by decide, by decide, by decide⟩
  have c50 : CPow 10 50 := ⟨by decide, by decide, by decide⟩
  unfold z__law_fault
  (conv => whnf)
  refine ⟨s, c, 6, rfl, by decide, by decide, st, ?_⟩
  rintro _ μ1 ⟨a, rfl, a0, a1⟩ st1 f1
  (conv => whnf)
  refine ⟨s, c, rfl, st1, ?_⟩
  rintro _ μ2 ⟨tw, rfl, tw0, tw1⟩ st2 f2
  (conv => whnf)
  split
  · rename_i ha
    have ha : a < 2 := of_decide_eq_true ha
    (conv => whnf)
    refine ⟨by simp; omega, by simp; omega, ?_⟩
    refine for_inv (Inv := fun i ρ μ' => μ' = μ2 ∧ ∃ (n : Int) (o6 : Option D), ρ = [some (.ref s), some (.lst (kn.map .int)), some (.int a), some (.int tw), some (.tup [.str "int", .int 1]), some (.int n), o6] ∧ 20 ≤ n ∧ (∀ x, 20 ≤ x → x < n → x ∈ kn) ∧ (n = 20 + i ∨ n ∉ kn)) ?_ ?_ ?_
    · exact ⟨rfl, 20, _, rfl, by omega, fun x h1 h2 => absurd h2 (by omega), .inl rfl⟩
    · rintro i x ρ μ' K hx ⟨rfl, n, o6, rfl, hn, hall, hor⟩ hK
      (conv => whnf)
      refine ⟨rfl, flat_ints kn, ?_⟩
      simp only [inF_ints]
      by_cases hm : n ∈ kn
      · simp only [decide_eq_true hm]
        (conv => whnf)
        refine hK _ _ ⟨rfl, n + 1, _, rfl, by omega, fun x h1 h2 => ?_, .inl ?_⟩
        · rcases Int.lt_or_eq_of_le (Int.le_of_lt_add_one h2) with h | rfl
          · exact hall x h1 h
          · exact hm
        · rcases hor with h | h
          · rw [h]; omega
          · exact absurd hm h
      · simp only [decide_eq_false hm]
        (conv => whnf)
        exact hK _ _ ⟨rfl, n, _, rfl, hn, hall, .inr hm⟩
    · rintro ρ μ' ⟨rfl, n, o6, rfl, hn, hall, hor⟩
      have hnk : n ∉ kn := by
        rcases hor with h | h
        · have := pigeon h3 hall
          have el : ((List.range ((((kn.map D.int).length : Nat) : Int) + 1).toNat).map fun (i : Nat) => D.int (0 + (i : Int))).length = kn.length + 1 := by simp
          rw [el] at h
          omega
        · exact h
      have a2 : a = 0 ∨ a = 1 := by omega
      rcases a2 with rfl | rfl
      · refine k _ _ ⟨.loc n, rfl, trivial, by simp only [T.dep]; omega, fun kn2 d h => ?_⟩ st2 (f1.trans f2)
        have : n ∉ kn2 := fun hx => by
          rcases h n hx with h | h
          · exact hnk h
          · omega
        simp only [T.fits, decide_eq_false this, Bool.and_false]
      · refine k _ _ ⟨.lt [(n, .loc n)] (.int 1), rfl, ⟨by simp, ⟨trivial, trivial⟩, trivial⟩, by simp only [T.dep, depPs]; omega, fun kn2 d h => ?_⟩ st2 (f1.trans f2)
        have : n ∉ kn2 := fun hx => by
          rcases h n hx with h | h
          · exact hnk h
          · omega
        simp only [T.fits, fitsPs, decide_eq_false this, Bool.and_false, Bool.false_and]
  (conv => whnf)
  split
  · (conv => whnf)
    refine ⟨s, c, 5, rfl, by decide, by decide, st2, ?_⟩
    rintro _ μ3 ⟨i, rfl, i0, i1⟩ st3 f3
    obtain ⟨p, ep, hp⟩ := atI_mem (xs := (["third", "/", "pai", "", "Pair"] : List Str)) i0 (by simpa using i1)
    have ed : atI [D.str "third", .str "/", .str "pai", .str "", .str "Pair"] i = some (.str p) := by
      have := atI_map D.str (["third", "/", "pai", "", "Pair"] : List Str) i
      rw [ep] at this
      exact this
    ((conv => whnf); (repeat ((first | rw [ed]); (conv => whnf))))
    refine k _ _ ⟨.prim p, rfl, trivial, by simp only [T.dep]; omega, fun kn2 d h => ?_⟩ st3 (f1.trans (f2.trans f3))
    have : (v_PRIMS.lookup p).isSome = false := by
      simp only [List.mem_cons, List.not_mem_nil, or_false] at hp
      rcases hp with rfl | rfl | rfl | rfl | rfl <;> decide
    simp only [T.fits, this, Bool.and_false]
  (conv => whnf)
  split
  · have e40 : (10 : Int) ^ 40 = 10000000000000000000000000000000000000000 := by decide
    have fin : ∀ (x : Int) μ', (x < 0 - big ∨ big < x) → StAt s c μ' → Fr s c μ μ' → q (.tup [.str "int", .int x]) μ' := fun x μ' hx st' f' => by
      refine k _ _ ⟨.int x, rfl, trivial, by simp only [T.dep]; omega, fun kn2 d h => ?_⟩ st' f'
      simp only [T.fits]
      rcases hx with hx | hx
      · rw [decide_eq_false (by omega : ¬ (0 - big ≤ x))]; simp
      · rw [decide_eq_false (by omega : ¬ (x ≤ big))]; simp
    (conv => whnf)
    refine ⟨c40, ?_⟩
    (conv => whnf)
    refine ⟨c40, ?_⟩
    (conv => whnf)
    refine ⟨c40, ?_⟩
    (conv => whnf)
    refine ⟨c50, ?_⟩
    (conv => whnf)
    refine ⟨s, c, 10 ^ 50, rfl, by decide, by decide, st2, ?_⟩
    rintro _ μ3 ⟨v, rfl, v0, v1⟩ st3 f3
    (conv => whnf)
    refine ⟨s, c, 3, rfl, by decide, by decide, st3, ?_⟩
    rintro _ μ4 ⟨i, rfl, i0, i1⟩ st4 f4
    have f := f1.trans (f2.trans (f3.trans f4))
    have b0 : big = 9999999999999999999999999999999999999999 := rfl
    have i3 : i = 0 ∨ i = 1 ∨ i = 2 := by omega
    rcases i3 with rfl | rfl | rfl
    · exact fin (10 ^ 40) μ4 (by omega) st4 f
    · exact fin (0 - 10 ^ 40) μ4 (by omega) st4 f
    · exact fin (10 ^ 40 + v) μ4 (by omega) st4 f
  (conv => whnf)
  split
  · refine k _ _ ⟨.fn [tw, 11, tw] (.int 1), rfl, ⟨by simp, trivial⟩, by simp only [T.dep]; omega, fun kn2 d h => ?_⟩ st2 (f1.trans f2)
    have : decide ([tw, 11, tw] : List Int).Nodup = false := by simp
    simp only [T.fits, this, Bool.and_false, Bool.false_and]
  · refine k _ _ ⟨.lt [(tw, .int 1), (12, .int 1), (tw, .int 1)] (.int 1), rfl, ⟨by simp, ⟨trivial, trivial, trivial, trivial⟩, trivial⟩, by simp only [T.dep, depPs]; omega, fun kn2 d h => ?_⟩ st2 (f1.trans f2)
    have : decide (([(tw, T.int 1), (12, .int 1), (tw, .int 1)] : List (Int × T)).map (·.1)).Nodup = false := by simp
    simp only [T.fits, this, Bool.and_false, Bool.false_and]
end Z

set_option maxRecDepth 100000
set_option maxHeartbeats 4000000
namespace Z
open PySem L2
theorem pds_ints : ∀ ns : List Int, pdsOf (ns.map .int) = some (ns.map PyData.int)
  | [] => rfl
  | a :: r => by simp only [List.map_cons, pdsOf, pdOf, pds_ints r]
theorem lay_ints : ∀ ns : List Int, PyData.canLayAll0 (ns.map PyData.int) = true
  | [] => rfl
  | a :: r => by simp only [List.map_cons, PyData.canLayAll0, PyData.canLay0, lay_ints r, Bool.and_self]
theorem depth_ints : ∀ ns : List Int, PyData.depthAll (ns.map PyData.int) ≤ 1
  | [] => by simp [PyData.depthAll]
  | a :: r => by have := depth_ints r; simp only [List.map_cons, PyData.depthAll, PyData.depth]; omega
theorem eq_ints {ns : List Int} {μ : Mu} : pyEq (.lst (ns.map .int)) (.lst (ns.map .int)) μ = some true := by
  have e : pdM (.lst (ns.map .int)) μ = some (.list (ns.map PyData.int)) := by simp only [pdM, pdOf, pds_ints]; rfl
  have sh : SeqAt.shaped (.list (ns.map PyData.int)) = true := by
    unfold SeqAt.shaped
    rw [Bool.and_eq_true]
    have := depth_ints ns
    refine ⟨?_, decide_eq_true (by simp only [PyData.depth]; omega)⟩
    simp only [PyData.canLay0, lay_ints]
  have eq : PyData.eqv (.list (ns.map PyData.int)) (.list (ns.map PyData.int)) = true := SeqAt.eqv_refl _ (SeqAt.canLay_of_shaped sh)
  simp only [pyEq, e, sh, eq]
  rfl
def Slaw : Zp := fun ds μ q _ => ∃ ns : List Int, ds = [.klst (ns.map .int)] ∧ ns.length ≤ 63 ∧ q (.bl true) = q (.bl true) ∧ ∀ μ', q (.bl true) μ'
theorem bool_and3 {a b c : Bool} {q : Bool → Prop} (h : q (a && (b && c))) : q (a && (b && c)) := h
theorem law_ok {ds : List D} {μ : Mu} {q : ZQ} {e : ZX} (h : Slaw ds μ q e) : zBody 10 (z_law Sstate Punl Stake (Stree 6) Sfault Swrap (Sdepth 120) (Sbound 120) (Swf 202)) ds μ q e := by
  obtain ⟨ns, rfl, hn, _, k⟩ := h
  unfold z_law
  (conv => whnf)
  refine ⟨ns, rfl, hn, fun s c μ1 st1 _ _ _ => ?_⟩
  (conv => whnf)
  refine ⟨s, c, 4, rfl, by decide, by decide, st1, ?_⟩
  rintro _ μ2 ⟨m, rfl, m0, m1⟩ st2 f2
  (conv => whnf)
  refine ⟨s, c, m, rfl, m0, by omega, st2, ?_⟩
  rintro _ μ3 ⟨kn, rfl, nl, nd, nb⟩ st3 f3
  have h3 : kn.length ≤ 3 := by omega
  (conv => whnf)
  refine ⟨s, c, kn, 5, rfl, by decide, by omega, st3, ?_⟩
  rintro _ μ4 ⟨t, rfl, tg, ts, td⟩ st4 f4
  (conv => whnf)
  refine ⟨s, c, 3, rfl, by decide, by decide, st4, ?_⟩
  rintro _ μ5 ⟨fa, rfl, fa0, fa1⟩ st5 f5
  -- behind the core: u, faulty or not
  have fin : ∀ (u : T) (o5 : Option D) (faulty : Bool) μ6, u.sm → u.dep ≤ 7 → (if faulty then FalseIn kn u else u.good) → StAt s c μ6 →
      (zSeq (zAsg (zOp zIx (zLst (zCons (zCall Stake (zCons (zVar 1) (zCons (zC (.int 6)) zNil))) (zCons (zOp zAdd (zC (.int 92)) (zCall Stake (zCons (zVar 1) (zCons (zC (.int 12)) zNil)))) zNil))) (zCall Stake (zCons (zVar 1) (zCons (zC (.int 2)) zNil)))) (zgName 6)) (zSeq (zAsg (zCall Swrap (zCons (zVar 1) (zCons (zVar 3) (zCons (zVar 6) zNil)))) (zgName 3)) (zSeq (zAsg (zAndV (zOp zLe (zCall (Sdepth 120) (zCons (zVar 3) zNil)) (zC (.int 100))) (zAndV (zNotV (zVar 4)) (zCall (Sbound 120) (zCons (zVar 3) (zCons (zVar 2) zNil))))) (zgName 7)) (zSeq (zAsg (zCB zToList (zCons (zVar 2) zNil)) (zgName 8)) (zSeq (zAsg (zCall (Swf 202) (zCons (zVar 3) (zCons (zVar 8) zNil))) (zgName 9)) (zSeq (zIfS (zOr (zNot (zTru (zUn (zIsi own_ [.bool]) (zVar 9)))) (zOr (zTst (zOp zNe (zVar 9) (zVar 7))) (zTst (zOp zNe (zVar 8) (zVar 2))))) (zRet (zC (.bl false))) zNext) (zRet (zOp zEq (zCall (Swf 202) (zCons (zVar 3) (zCons (zCB zToTup (zCons (zVar 2) zNil)) zNil))) (zVar 9)))))))))
        { nx := fun _ μ' => q .non μ', rt := q, ex := fun r _ μ' => e r μ' } [some (.klst (ns.map .int)), some (.ref s), some (.lst (kn.map .int)), some u.d, some (.bl faulty), o5, none, none, none, none] μ6 := fun u o5 faulty μ6 us ud ug st6 => by
    (conv => whnf)
    refine ⟨s, c, 6, rfl, by decide, by decide, st6, ?_⟩
    rintro _ μ7 ⟨a, rfl, a0, a1⟩ st7 f7
    (conv => whnf)
    refine ⟨s, c, 12, rfl, by decide, by decide, st7, ?_⟩
    rintro _ μ8 ⟨b, rfl, b0, b1⟩ st8 f8
    (conv => whnf)
    refine ⟨s, c, 2, rfl, by decide, by decide, st8, ?_⟩
    rintro _ μ9 ⟨i, rfl, i0, i1⟩ st9 f9
    obtain ⟨many, em, hm⟩ : ∃ many : Nat, atI [D.int a, D.int (92 + b)] i = some (.int many) ∧ many ≤ 103 := by
      have i2 : i = 0 ∨ i = 1 := by omega
      rcases i2 with rfl | rfl
      · exact ⟨a.toNat, by show some (D.int a) = _; rw [Int.toNat_of_nonneg a0], by omega⟩
      · exact ⟨(92 + b).toNat, by show some (D.int (92 + b)) = _; rw [Int.toNat_of_nonneg (by omega)], by omega⟩
    ((conv => whnf); (repeat ((first | rw [em]); (conv => whnf))))
    refine ⟨s, c, u, many, rfl, by omega, st9, ?_⟩
    rintro _ μ10 ⟨v, rfl, w⟩ st10 f10
    have vs := w.sm us
    have vd : v.dep ≤ 110 := by have := w.dep; omega
    have h1 := v.dep_pos
    (conv => whnf)
    refine ⟨v, rfl, vs, by omega, ?_⟩
    -- the whole end: due = told
    have done : ∀ due : Bool, due = v.fits kn 1 → (zSeq (zAsg (zCB zToList (zCons (zVar 2) zNil)) (zgName 8)) (zSeq (zAsg (zCall (Swf 202) (zCons (zVar 3) (zCons (zVar 8) zNil))) (zgName 9)) (zSeq (zIfS (zOr (zNot (zTru (zUn (zIsi own_ [.bool]) (zVar 9)))) (zOr (zTst (zOp zNe (zVar 9) (zVar 7))) (zTst (zOp zNe (zVar 8) (zVar 2))))) (zRet (zC (.bl false))) zNext) (zRet (zOp zEq (zCall (Swf 202) (zCons (zVar 3) (zCons (zCB zToTup (zCons (zVar 2) zNil)) zNil))) (zVar 9))))))
        { nx := fun _ μ' => q .non μ', rt := q, ex := fun r _ μ' => e r μ' } [some (.klst (ns.map .int)), some (.ref s), some (.lst (kn.map .int)), some v.d, some (.bl faulty), o5, some (.int many), some (.bl due), none, none] μ10 := fun due hdue => by
      (conv => whnf)
      refine ⟨v, kn, _, rfl, .inl rfl, vs, h3, Nat.le_refl _, ?_⟩
      rw [← hdue]
      (conv => whnf)
      have ed : decide (due = due) = true := decide_eq_true rfl
      rw [ed]
      ((conv => whnf); (repeat ((first | rw [eq_ints]); (conv => whnf))))
      refine ⟨v, kn, _, rfl, .inr rfl, vs, h3, Nat.le_refl _, ?_⟩
      rw [← hdue]
      ((conv => whnf); (repeat ((first | rw [ed]); (conv => whnf))))
      exact k _
    have hc : ∀ b : Bool, (T.fits v kn 1 = b) → b = T.fits v kn 1 := fun _ h => h.symm
    (conv => whnf)
    split
    · rename_i hd
      have hd : ((v.dep : Nat) : Int) ≤ 100 := of_decide_eq_true (D.bl.inj hd)
      (conv => whnf)
      cases faulty with
      | true =>
        (conv => whnf)
        exact done false (w.bad kn ug kn 1 (fun x hx => .inl hx)).symm
      | false =>
        (conv => whnf)
        refine ⟨v, kn, rfl, vs, by omega, by omega, ?_⟩
        refine done _ ?_
        rw [fits_good v kn 1 (w.good ug) (Nat.le_refl _), decide_eq_true (by omega : 1 + v.dep ≤ 101), Bool.true_and]
    · rename_i hd
      have hd : ¬ ((v.dep : Nat) : Int) ≤ 100 := of_decide_eq_false (D.bl.inj hd)
      refine done false ?_
      cases faulty with
      | true => exact (w.bad kn ug kn 1 (fun x hx => .inl hx)).symm
      | false => rw [fits_good v kn 1 (w.good ug) (Nat.le_refl _), decide_eq_false (by omega : ¬ 1 + v.dep ≤ 101), Bool.false_and]
    · rename_i hd hd2
      exfalso
      cases ec : decide (((v.dep : Nat) : Int) ≤ 100) with
      | true => exact hd (congrArg D.bl ec)
      | false => exact hd2 (congrArg D.bl ec)
  (conv => whnf)
  split
  · rename_i hf
    have hf : decide (0 < fa) = true := hf
    (conv => whnf)
    refine ⟨s, c, kn, rfl, h3, st5, ?_⟩
    rintro _ μ6 ⟨ft, rfl, fs, fd, fb⟩ st6 f6
    (conv => whnf)
    refine ⟨s, c, 3, rfl, by decide, by decide, st6, ?_⟩
    rintro _ μ7 ⟨i, rfl, i0, i1⟩ st7 f7
    have i3 : i = 0 ∨ i = 1 ∨ i = 2 := by omega
    rcases i3 with rfl | rfl | rfl
    · refine fin (.call ft [t]) (some ft.d) (decide (0 < fa)) μ7 ⟨by simp, fs, ts, trivial⟩ (by simp only [T.dep, depAs]; omega) ?_ st7
      rw [if_pos hf]
      intro kn2 d h
      simp only [T.fits]
      rw [fb _ _ h]; simp
    · refine fin (.ite t ft t) (some ft.d) (decide (0 < fa)) μ7 ⟨ts, fs, ts⟩ (by simp only [T.dep]; omega) ?_ st7
      rw [if_pos hf]
      intro kn2 d h
      simp only [T.fits]
      rw [fb _ _ h]; simp
    · refine fin (.lt [(14, t)] ft) (some ft.d) (decide (0 < fa)) μ7 ⟨by simp, ⟨ts, trivial⟩, fs⟩ (by simp only [T.dep, depPs]; omega) ?_ st7
      rw [if_pos hf]
      intro kn2 d h
      simp only [T.fits]
      exact and_false' (and_false' (and_false' (fb _ _ (fals_app h (by simp)))))
  · rename_i hf
    have hf : decide (0 < fa) = false := hf
    refine fin t none (decide (0 < fa)) μ5 ts (by omega) ?_ st5
    rw [hf]
    exact tg
end Z

set_option maxRecDepth 100000
set_option maxHeartbeats 0
namespace Z
open PySem PySem.Spec PyProof.Rows L2
def fn : List He.DefD := [dd "unlike" s_unlike, dd "let_fits" s_let_fits, dd "fits" s_fits, dd "well_formed" s_well_formed, dd "_law_mixed" s__law_mixed, dd "_law_take" s__law_take, dd "_law_state" s__law_state, dd "_law_number" s__law_number, dd "_law_unlike" s__law_unlike, dd "_law_leaf" s__law_leaf, dd "_law_tree" s__law_tree, dd "_law_wrapped" s__law_wrapped, dd "_law_integer" s__law_integer, dd "_law_depth" s__law_depth, dd "_law_fault" s__law_fault, dd "_law_bound" s__law_bound, dd "law" s_law]
def fa : List He.Fa := (["unlike", "let_fits", "fits", "well_formed", "_law_mixed", "_law_take", "_law_state", "_law_number", "_law_unlike", "_law_leaf", "_law_tree", "_law_wrapped", "_law_integer", "_law_depth", "_law_fault", "_law_bound", "law", "PRIMS"] : List Str).map He.Fa.glo ++ (["abs", "all", "bool", "int", "isinstance", "len", "list", "max", "range", "tuple"] : List Str).map He.Fa.free ++ [.int "MOST_DEPTH" 100, .int "MOST_NUMBER" 9999999999999999999999999999999999999999]
def ts : List He.Tab := [(fun K => He.ga K "PRIMS", v_PRIMS.map Prod.fst)]
def ex (K : PySem.W.Frag) : Bool := He.valsB K (He.ga K "PRIMS") (dvs v_PRIMS)
section
variable {P : Program} {w : World} {K : PySem.W.Frag} {h : Heap} {mg : Str → Option Value} {base : Heap}
theorem fx_of (X : K.In h) (G : h.Ns mainGlobals mg) (c : He.SaysT fa fn ts w K) (cx : ex K = true) : Fx w K mg where
  b_abs := He.free_ok X G (c.d.facts (f := .free "abs") (by simp [fa]))
  b_all := He.free_ok X G (c.d.facts (f := .free "all") (by simp [fa]))
  b_bool := He.free_ok X G (c.d.facts (f := .free "bool") (by simp [fa]))
  b_int := He.free_ok X G (c.d.facts (f := .free "int") (by simp [fa]))
  b_isinstance := He.free_ok X G (c.d.facts (f := .free "isinstance") (by simp [fa]))
  b_len := He.free_ok X G (c.d.facts (f := .free "len") (by simp [fa]))
  b_list := He.free_ok X G (c.d.facts (f := .free "list") (by simp [fa]))
  b_max := He.free_ok X G (c.d.facts (f := .free "max") (by simp [fa]))
  b_range := He.free_ok X G (c.d.facts (f := .free "range") (by simp [fa]))
  b_tuple := He.free_ok X G (c.d.facts (f := .free "tuple") (by simp [fa]))
  c_MOST_DEPTH := He.int_ok X G (c.d.facts (f := .int "MOST_DEPTH" 100) (by simp [fa]))
  c_MOST_NUMBER := He.int_ok X G (c.d.facts (f := .int "MOST_NUMBER" 9999999999999999999999999999999999999999) (by simp [fa]))
  c_PRIMS := ckd_of X G (c.d.facts (f := .glo "PRIMS") (by simp [fa])) (by
    have e : ts.map (fun t => He.dicW K (t.1 K)) = ts.map fun t => some (He.keysIn w.params t.2) := congrArg (fun z : He.AlT => z.2) c
    exact (List.cons.inj e).1) cx
  own := fun C h => by simp [own_] at h
  isi_bool := isi_b _ (fun C h => by cases h)
theorem df {x : Str} {st : Stmt} {ps : List Str} (X : K.In h) (G : h.Ns mainGlobals mg) (c : He.SaysT fa fn ts w K) (h1 : dd x st ∈ fn) (h2 : He.Fa.glo x ∈ fa)
    (hb : ∀ (kV doc pm : Value) (an : Option Addr) (cdv ct : Value) (us : List Value), us.length = ps.length → bindArgs (PySem.W.fnOf x x (defArgs st) (defBody st) (defScope st) .none kV doc pm an cdv ct) ⟨us, []⟩ = pure (ps.zip us)) : Def K mg x st ps := by
  obtain ⟨fd, F⟩ := c.d.defs h1
  exact ⟨_, fd, fun_of F, He.glo_ok X G (c.d.facts h2), FunD.bindsN F hb⟩
end
section
variable {P : Program} {w : World} {K : PySem.W.Frag} {h : Heap} {mg : Str → Option Value} {base : Heap}
structure Ds (K : PySem.W.Frag) (mg : Str → Option Value) : Prop where
  unlike : Def K mg "unlike" s_unlike ["numbers"]
  let_fits : Def K mg "let_fits" s_let_fits ["core", "known", "depth"]
  fits : Def K mg "fits" s_fits ["core", "known", "depth"]
  well_formed : Def K mg "well_formed" s_well_formed ["core", "known"]
  mixed : Def K mg "_law_mixed" s__law_mixed ["_law_cell"]
  take : Def K mg "_law_take" s__law_take ["_law_state_here", "_law_limit"]
  state : Def K mg "_law_state" s__law_state ["_law_script"]
  number : Def K mg "_law_number" s__law_number ["_law_state_here"]
  uns : Def K mg "_law_unlike" s__law_unlike ["_law_state_here", "_law_count"]
  leaf : Def K mg "_law_leaf" s__law_leaf ["_law_state_here", "_law_known"]
  tree : Def K mg "_law_tree" s__law_tree ["_law_state_here", "_law_known", "_law_room"]
  wrapped : Def K mg "_law_wrapped" s__law_wrapped ["_law_state_here", "_law_core", "_law_many"]
  integer : Def K mg "_law_integer" s__law_integer ["_law_state_here"]
  depth : Def K mg "_law_depth" s__law_depth ["_law_core"]
  fault : Def K mg "_law_fault" s__law_fault ["_law_state_here", "_law_known"]
  bound : Def K mg "_law_bound" s__law_bound ["_law_core", "_law_known"]
theorem ds_of (X : K.In h) (G : h.Ns mainGlobals mg) (c : He.SaysT fa fn ts w K) : Ds K mg where
  unlike := df X G c (by simp [fn]) (by simp [fa]) fun _ _ _ _ _ _ us hl => match us, hl with | [_], _ => rfl
  let_fits := df X G c (by simp [fn]) (by simp [fa]) fun _ _ _ _ _ _ us hl => match us, hl with | [_, _, _], _ => rfl
  fits := df X G c (by simp [fn]) (by simp [fa]) fun _ _ _ _ _ _ us hl => match us, hl with | [_, _, _], _ => rfl
  well_formed := df X G c (by simp [fn]) (by simp [fa]) fun _ _ _ _ _ _ us hl => match us, hl with | [_, _], _ => rfl
  mixed := df X G c (by simp [fn]) (by simp [fa]) fun _ _ _ _ _ _ us hl => match us, hl with | [_], _ => rfl
  take := df X G c (by simp [fn]) (by simp [fa]) fun _ _ _ _ _ _ us hl => match us, hl with | [_, _], _ => rfl
  state := df X G c (by simp [fn]) (by simp [fa]) fun _ _ _ _ _ _ us hl => match us, hl with | [_], _ => rfl
  number := df X G c (by simp [fn]) (by simp [fa]) fun _ _ _ _ _ _ us hl => match us, hl with | [_], _ => rfl
  uns := df X G c (by simp [fn]) (by simp [fa]) fun _ _ _ _ _ _ us hl => match us, hl with | [_, _], _ => rfl
  leaf := df X G c (by simp [fn]) (by simp [fa]) fun _ _ _ _ _ _ us hl => match us, hl with | [_, _], _ => rfl
  tree := df X G c (by simp [fn]) (by simp [fa]) fun _ _ _ _ _ _ us hl => match us, hl with | [_, _, _], _ => rfl
  wrapped := df X G c (by simp [fn]) (by simp [fa]) fun _ _ _ _ _ _ us hl => match us, hl with | [_, _, _], _ => rfl
  integer := df X G c (by simp [fn]) (by simp [fa]) fun _ _ _ _ _ _ us hl => match us, hl with | [_], _ => rfl
  depth := df X G c (by simp [fn]) (by simp [fa]) fun _ _ _ _ _ _ us hl => match us, hl with | [_], _ => rfl
  fault := df X G c (by simp [fn]) (by simp [fa]) fun _ _ _ _ _ _ us hl => match us, hl with | [_, _], _ => rfl
  bound := df X G c (by simp [fn]) (by simp [fa]) fun _ _ _ _ _ _ us hl => match us, hl with | [_, _], _ => rfl
variable (P base)
theorem c_take (fx : Fx w K mg) (D : Ds K mg) : Cal P w K mg base 2 "_law_take" ["_law_state_here", "_law_limit"] Stake :=
  (ok__law_take fx D.take ((ok__law_mixed fx D.mixed).imp fun _ _ _ _ => mixed_ok)).imp fun _ _ _ _ => take_ok
theorem c_number (fx : Fx w K mg) (D : Ds K mg) : Cal P w K mg base 3 "_law_number" ["_law_state_here"] (Smk Pnum) := (ok__law_number fx D.number (c_take P base fx D)).imp fun _ _ _ _ => number_ok
theorem c_integer (fx : Fx w K mg) (D : Ds K mg) : Cal P w K mg base 3 "_law_integer" ["_law_state_here"] (Smk Pint) := (ok__law_integer fx D.integer (c_take P base fx D)).imp fun _ _ _ _ => integer_ok
theorem c_uns (fx : Fx w K mg) (D : Ds K mg) : Cal P w K mg base 4 "_law_unlike" ["_law_state_here", "_law_count"] Punl := (ok__law_unlike fx D.uns (c_number P base fx D)).imp fun _ _ _ _ => uns_ok
theorem c_leaf (fx : Fx w K mg) (D : Ds K mg) : Cal P w K mg base 4 "_law_leaf" ["_law_state_here", "_law_known"] Sleaf := (ok__law_leaf fx D.leaf ((c_take P base fx D).mono (by decide)) (c_integer P base fx D)).imp fun _ _ _ _ => leaf_ok
theorem c_tree (fx : Fx w K mg) (D : Ds K mg) : ∀ n, Cal P w K mg base (4 + n) "_law_tree" ["_law_state_here", "_law_known", "_law_room"] (Stree n)
  | 0 => ((Cal.zero D.tree).imp fun _ _ _ _ h => by obtain ⟨_, _, _, _, _, h, _⟩ := h; omega).mono (Nat.zero_le _)
  | n + 1 => (ok__law_tree fx D.tree ((c_take P base fx D).mono (by omega)) ((c_leaf P base fx D).mono (by omega)) ((c_uns P base fx D).mono (by omega)) (c_tree fx D n)).imp fun _ _ _ _ => tree_ok
theorem c_wrapped (fx : Fx w K mg) (D : Ds K mg) : Cal P w K mg base 3 "_law_wrapped" ["_law_state_here", "_law_core", "_law_many"] Swrap := (ok__law_wrapped fx D.wrapped (c_take P base fx D)).imp fun _ _ _ _ => wrapped_ok
theorem c_fault (fx : Fx w K mg) (D : Ds K mg) : Cal P w K mg base 4 "_law_fault" ["_law_state_here", "_law_known"] Sfault := (ok__law_fault fx D.fault ((c_take P base fx D).mono (by decide)) (c_number P base fx D)).imp fun _ _ _ _ => fault_ok
theorem c_depth (fx : Fx w K mg) (D : Ds K mg) : ∀ n, Cal P w K mg base n "_law_depth" ["_law_core"] (Sdepth n)
  | 0 => (Cal.zero D.depth).imp fun _ _ _ _ h => by obtain ⟨t, _, _, h, _⟩ := h; have := t.dep_pos; omega
  | n + 1 => (ok__law_depth fx D.depth (c_depth fx D n)).imp fun _ _ _ _ => depth_ok
theorem c_bound (fx : Fx w K mg) (D : Ds K mg) : ∀ n, Cal P w K mg base n "_law_bound" ["_law_core", "_law_known"] (Sbound n)
  | 0 => (Cal.zero D.bound).imp fun _ _ _ _ h => by obtain ⟨t, _, _, _, h, _⟩ := h; have := t.dep_pos; omega
  | n + 1 => (ok__law_bound fx D.bound (c_bound fx D n)).imp fun _ _ _ _ => bound_ok
theorem c_fits (fx : Fx w K mg) (D : Ds K mg) : ∀ n, Cal P w K mg base (n + 1) "fits" ["core", "known", "depth"] (Sfits n) ∧ Cal P w K mg base (n + 1) "let_fits" ["core", "known", "depth"] (Slet n)
  | 0 => ⟨((Cal.zero D.fits).imp fun _ _ _ _ h => by obtain ⟨_, _, _, _, _, _, _, _, _⟩ := h; omega).mono (Nat.zero_le _), ((Cal.zero D.let_fits).imp fun _ _ _ _ h => by obtain ⟨_, _, _, _, _, _, _, _, _, _⟩ := h; omega).mono (Nat.zero_le _)⟩
  | n + 1 => by
    have ih := c_fits fx D n
    have u : Cal P w K mg base (n + 1) "unlike" ["numbers"] Sunl := ((ok_unlike (k := 0) fx D.unlike).imp fun _ _ _ _ => unlike_ok).mono (by omega)
    exact ⟨(ok_fits fx D.fits u ih.1 ih.2).imp fun _ _ _ _ => fits_ok, (ok_let_fits fx D.let_fits u ih.1).imp fun _ _ _ _ => let_ok⟩
theorem c_wf (fx : Fx w K mg) (D : Ds K mg) : Cal P w K mg base 204 "well_formed" ["core", "known"] (Swf 202) := (ok_well_formed fx D.well_formed (c_fits P base fx D 202).1).imp fun _ _ _ _ => wf_ok
theorem facts {f : Addr} (X : K.In h) (G : h.Ns mainGlobals mg) (hfa : mg "law" = some (.ref f)) (c : He.SaysT fa fn ts w K) (cx : ex K = true) :
    ∃ fd : FuncData, (∀ (s : Shared) (v : Value), BindsTo s fd ⟨[v], []⟩ [("_law_script", v)]) ∧ ∀ base : Heap, K.In base → base.Ns mainGlobals mg → FnOk P w K mg base (L2.CX P w) 205 f fd ["_law_script"] (spOf K 1 Slaw) := by
  have fx := fx_of X G c cx
  have D := ds_of X G c
  obtain ⟨fd, F⟩ := c.d.defs (d := dd "law" s_law) (by simp [fn])
  have e := hfa.symm.trans (He.glo_ok X G (c.d.facts (f := .glo "law") (by simp [fa])))
  cases e
  have b := FunD.bindsA (ps := ["_law_script"]) F fun _ _ _ _ _ _ us hl => match us, hl with | [_], _ => rfl
  refine ⟨fd, fun s v => b s [v] rfl, fun base _ _ => ?_⟩
  exact zfun (N := ["_law_script", "_law_state_here", "_law_known", "_law_core", "_law_faulty", "_law_inner", "_law_many", "_law_due", "_law_passed", "_law_told"]) (fun_of F) sc_law (fun _ _ _ _ => law_ok)
    (body_law fx (((ok__law_state (k := 0) fx D.state).imp fun _ _ _ _ => state_ok).mono (by decide)) ((c_uns P base fx D).mono (by decide)) ((c_take P base fx D).mono (by decide)) ((c_tree P base fx D 6).mono (by decide)) ((c_fault P base fx D).mono (by decide)) ((c_wrapped P base fx D).mono (by decide))
      ((c_depth P base fx D 120).mono (by decide)) ((c_bound P base fx D 120).mono (by decide)) (c_wf P base fx D) _)
end
theorem hsp_of {K : PySem.W.Frag} {H : Hp} {a : Addr} {ns : List Int} {S : Zp} (hl : ns.length ≤ 63) (hS : SqL K H a (ns.map V.int)) (hs : ∀ q e, (∀ μ, q (.bl true) μ) → S [.klst (ns.map .int)] (fun _ => none) q e) :
    spOf K 1 S [.ref a] H (fun v _ => v = .bl true) fun _ _ _ => False := by
  refine ⟨rfl, fun _ => False, [.klst (ns.map .int)], fun _ => none, fun d _ => d = .bl true, fun _ _ => False, ⟨(fun b c h => by cases h), fun b h => h.elim⟩, ?_, hs _ _ fun _ => rfl, ?_, fun _ _ _ _ _ _ _ _ h => h⟩
  · have hr : RepL K H (fun _ => none) (fun _ => False) (ns.map D.int) (ns.map V.int) := by
      clear hS hl hs
      induction ns with
      | nil => simp [RepL]
      | cons n r ih => simp only [List.map_cons, RepL]; exact ⟨_, _, rfl, rep_int, ih⟩
    simp only [RepL]
    refine ⟨_, _, rfl, ?_, rfl⟩
    simp only [Rep]
    refine ⟨a, _, rfl, ?_, hr⟩
    rcases hS with (h | ⟨o, h⟩) | h
    · exact .inl ⟨.inl h, rfl, rfl, id⟩
    · exact .inl ⟨.inr ⟨rfl, o, h⟩, rfl, rfl, id⟩
    · exact .inr h
  · rintro d v H' μ' _ _ r rfl
    exact r.bl
theorem walk {l : PySem.W.OpenLaw} {q : Program} {loose : List Str} {XP : (Str → Option Value) → Heap → Prop} {YP : World → Heap → Prop} {d : DefRec} {K : Params → PySem.W.Frag} {S : Zp} {k : Nat} (hn : l.most = some 63) (hdf : d.params.defaults = []) (hr : Room k callerA)
    (hY : ∀ (w : World) (h : Heap), YP w h → (K w.params).In h) (hs : ∀ ns : List Int, ns.length ≤ 63 → ∀ q e, (∀ μ, q (.bl true) μ) → S [.klst (ns.map .int)] (fun _ => none) q e)
    (F : ∀ (w : World) (mg : Str → Option Value) (fa : Addr) (h : Heap), (K w.params).In h → h.Ns mainGlobals mg → mg d.name = some (.ref fa) →
      ∃ fd : FuncData, (∀ (s : Shared) (u : Value), BindsTo s fd ⟨[u], []⟩ [("_law_script", u)]) ∧ ∀ base : Heap, (K w.params).In base → base.Ns mainGlobals mg → FnOk l.prog w (K w.params) mg base (L2.CX l.prog w) k fa fd ["_law_script"] (spOf (K w.params) 1 S)) :
    PySem.W.WalkO q loose XP YP l.row.toRowW d [] (fun f vs => PySem.call f vs) :=
  L2.walk_of (n := 63) (k := k) (x := "_law_script") (CX := fun w => L2.CX l.prog w) (sp := fun w => spOf (K w.params) 1 S) hn (by decide) hdf hr hY F
    (fun w H a ns hl _ hS => hsp_of hl hS (hs ns hl)) (fun w H s e s' h => by obtain ⟨a, B, H', cls, d, _, _, _, _, _, _, _, h⟩ := h; exact h)
end Z
open PySem PySem.W PyProof.Rows
set_option maxRecDepth 100000 in
set_option maxHeartbeats 0 in
theorem PySem.Challenge.cw_aliasfold_k40_well_formed_trees_holds : PySem.Challenge.rw_aliasfold_k40_well_formed_trees.Holds := by
  w_on; o_law; k_head; (case hw => w_witness2)
  k_fill
  refine Z.walk (l := PySem.Challenge.rw_aliasfold_k40_well_formed_trees) (S := Z.Slaw) (k := 205) rfl rfl ⟨rfl, by decide, by decide⟩ (fun w h Y => PySem.W.kIn_of Y) (fun ns hl q e h => ⟨ns, rfl, hl, rfl, h⟩) ?F
  case F =>
    intro w mg fa h KX G hmg
    exact Z.facts _ KX G hmg (by unfold He.SaysT; kernel_rfl) (by kernel_rfl)
